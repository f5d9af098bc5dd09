import PyProof.Rows.All
import Wide.All
import OpenK.AllK
import Wide.FinOn
import HandS.ForMost
import HandS.ForExc
import KE.SortData
import HandS.TryMany
import HandS.ExcField
import HandS.ExcIs
import HandS.Zip
import HandS.Conv
import HandS.Flow
import HandS.TupAny
import HandS.TupMul
import HandS.Style
import KE.KRevSl
import PyProof.ReprRoads
import HandS.IsInst
import HandS.RaiseMore
import KE.GoesEnum
import HandS.Deep
import HandS.SetFor
import HandS.More
import HandS.Small
import HandS.ExcInit
import KE.KExcSuper
import KE.KSuper
import HandS.Words
import KE.KExcIs
import HandS.Ends
import PyProof.ReprLen
import PySem.Challenge.RW_singlegates_k80_whole_trains_go_elsewher
set_option Elab.async false
set_option linter.all false

section
set_option Elab.async false
set_option linter.all false
/-! Sg, part 1: an evaluator for the Python that occurs, over pure values and a memory of cells that change. -/
namespace Sg
open PySem (Str PyData)

/-- values: lists here never change any more; what may change is a cell of the memory, ref n -/
inductive Vl where
  | non | bl (b : Bool) | int (i : Int) | str (s : Str)
  | dic
  | tup (l : List Vl) | lst (l : List Vl)
  | ref (n : Nat)
  | xc (c : String) (l : List Vl)
  | scr (l : List Vl)
  deriving Inhabited
inductive Cl where
  | lst (l : List Vl)
  | dct (l : List (Vl × Vl))
  | ins (c : String) (l : List (String × Vl))
  deriving Inhabited
abbrev Mm := List Cl
abbrev Sl := List (Option Vl)

inductive R (α : Type) where
  | ok (a : α) (m : Mm)
  | exc (c : String) (ws : List Vl) (m : Mm)
  | bad
def R.bind {α β : Type} (r : R α) (f : α → Mm → R β) : R β :=
  match r with
  | .ok a m => f a m
  | .exc c ws m => .exc c ws m
  | .bad => .bad
@[simp] theorem R.bind_ok {α β : Type} (a : α) (m : Mm) (f : α → Mm → R β) : (R.ok a m).bind f = f a m := rfl
@[simp] theorem R.bind_exc {α β : Type} (c : String) (ws : List Vl) (m : Mm) (f : α → Mm → R β) : (R.exc c ws m : R α).bind f = .exc c ws m := rfl
@[simp] theorem R.bind_bad {α β : Type} (f : α → Mm → R β) : (R.bad : R α).bind f = .bad := rfl
/-- an answer that may be lacking -/
def R.of {α : Type} (o : Option α) (m : Mm) : R α :=
  match o with
  | some a => .ok a m
  | none => .bad
@[simp] theorem R.of_some {α : Type} (a : α) (m : Mm) : R.of (some a) m = .ok a m := rfl
@[simp] theorem R.of_none {α : Type} (m : Mm) : R.of (none : Option α) m = .bad := rfl

/-! ### looks at values -/
mutual
def dep : Vl → Nat
  | .tup l => depL l + 1
  | .lst l => depL l + 1
  | .dic => 1
  | _ => 0
def depL : List Vl → Nat
  | [] => 0
  | x :: r => max (dep x) (depL r)
end
mutual
/-- no cell within, no exception; texts of true signs -/
def pureV : Vl → Bool
  | .non => true
  | .bl _ => true
  | .int _ => true
  | .str s => PySem.PyData.strOk s
  | .tup l => pureL l
  | .lst l => pureL l
  | .ref _ => false
  | .xc _ _ => false
  | .scr _ => false
  | .dic => false
def pureL : List Vl → Bool
  | [] => true
  | x :: r => pureV x && pureL r
end
mutual
/-- the same, an empty dict that never changes within -/
def pureR : Vl → Bool
  | .str s => PySem.PyData.strOk s
  | .tup l => pureRL l
  | .lst l => pureRL l
  | .ref _ => false
  | .xc _ _ => false
  | .scr _ => false
  | _ => true
def pureRL : List Vl → Bool
  | [] => true
  | x :: r => pureR x && pureRL r
end
mutual
/-- all cells within lie below n -/
def below (n : Nat) : Vl → Bool
  | .tup l => belowL n l
  | .lst l => belowL n l
  | .ref i => decide (i < n)
  | .xc _ _ => true
  | .scr l => belowL n l
  | _ => true
def belowL (n : Nat) : List Vl → Bool
  | [] => true
  | x :: r => below n x && belowL n r
end
mutual
def toD : Vl → PyData
  | .non => .none
  | .bl b => .bool b
  | .int i => .int i
  | .str s => .str s
  | .tup l => .tuple (toDL l)
  | .lst l => .list (toDL l)
  | .ref _ => .none
  | .xc _ _ => .none
  | .scr _ => .none
  | .dic => .dict []
def toDL : List Vl → List PyData
  | [] => []
  | x :: r => toD x :: toDL r
end
mutual
/-- == of values without cells -/
def eqV : Vl → Vl → Bool
  | .non, .non => true
  | .bl a, .bl b => a == b
  | .bl a, .int j => decide ((if a then (1 : Int) else 0) = j)
  | .int i, .bl b => decide (i = (if b then (1 : Int) else 0))
  | .int i, .int j => decide (i = j)
  | .str x, .str y => decide (x = y)
  | .tup l, .tup m => eqL l m
  | .lst l, .lst m => eqL l m
  | _, _ => false
def eqL : List Vl → List Vl → Bool
  | [], [] => true
  | x :: r, y :: s => eqV x y && eqL r s
  | _, _ => false
end
/-- a list that stands in a cell, as it stands -/
def rd (M : Mm) (w : Vl) : Vl :=
  match w with
  | .ref i => (match M[i]? with | some (.lst l) => .lst l | _ => .ref i)
  | w => w
/-- the items of a tuple or a list -/
def seq (M : Mm) (w : Vl) : Option (List Vl) :=
  match rd M w with
  | .tup l => some l
  | .lst l => some l
  | _ => none
def seqLst (M : Mm) (w : Vl) : Option (List Vl) :=
  match rd M w with
  | .lst l => some l
  | _ => none
def depLine : Nat := 150
def eqR (M : Mm) (a b : Vl) : Option Bool :=
  if pureV (rd M a) = true ∧ pureV (rd M b) = true ∧ min (dep (rd M a)) (dep (rd M b)) ≤ depLine then some (eqV (rd M a) (rd M b)) else none
/-- x in a row of items -/
def inR (M : Mm) (x : Vl) (l : List Vl) : Option Bool :=
  if pureV (rd M x) = true ∧ pureL l = true ∧ min (depL l) (dep (rd M x)) ≤ depLine then some (l.any fun y => eqV y (rd M x)) else none
/-- truth -/
def tru (M : Mm) (w : Vl) : Option Bool :=
  match rd M w with
  | .non => some false
  | .bl b => some b
  | .int i => some (i != 0)
  | .str s => if s.length ≤ PySem.sizeLine then some ((s.length : Int) != 0) else none
  | .tup l => some (!l.isEmpty)
  | .lst l => some (!l.isEmpty)
  | _ => none
/-- a new list: as it will stay, or a cell -/
def mkL (fz : Bool) (l : List Vl) (M : Mm) : R Vl :=
  if fz = true then .ok (.lst l) M else .ok (.ref M.length) (M ++ [.lst l])

/-! ### operators -/
inductive Op2 where
  | add | sub | mul | fdiv | mod | pow
  deriving DecidableEq
inductive Cop where
  | eq | ne | lt | le | gt | ge | isn | nisn | in_ | nin
  deriving DecidableEq
def smallI (i : Int) : Prop := -(2 ^ 64) < i ∧ i < 2 ^ 64
instance (i : Int) : Decidable (smallI i) := inferInstanceAs (Decidable (_ ∧ _))
def addV (fz : Bool) (a b : Vl) (M : Mm) : R Vl :=
  match rd M a, rd M b with
  | .int i, .int j => .ok (.int (i + j)) M
  | .str x, .str y => if x.length + y.length ≤ PySem.sizeLine then .ok (.str (x ++ y)) M else .bad
  | .tup l, .tup m => if l.length + m.length ≤ PySem.sizeLine then .ok (.tup (l ++ m)) M else .bad
  | .lst l, .lst m => if l.length + m.length ≤ PySem.sizeLine then mkL fz (l ++ m) M else .bad
  | _, _ => .bad
def mulV (fz : Bool) (a b : Vl) (M : Mm) : R Vl :=
  match rd M a, rd M b with
  | .int i, .int j => if smallI i ∨ smallI j then .ok (.int (i * j)) M else .bad
  | .lst l, .int k => if -(2 ^ 63) ≤ k ∧ k < 2 ^ 63 ∧ l.length * k.toNat ≤ PySem.sizeLine then mkL fz (List.replicate k.toNat l).flatten M else .bad
  | .tup l, .int k => if (l = [] ∧ -(2 ^ 63) ≤ k ∧ k < 2 ^ 63) ∨ (l ≠ [] ∧ 2 ≤ k ∧ k ≤ 1000 ∧ l.length ≤ 1000) then .ok (.tup (List.replicate k.toNat l).flatten) M else .bad
  | _, _ => .bad
def bin2 (op : Op2) (fz : Bool) (a b : Vl) (M : Mm) : R Vl :=
  match op with
  | .add => addV fz a b M
  | .mul => mulV fz a b M
  | .sub => (match a, b with | .int i, .int j => .ok (.int (i - j)) M | _, _ => .bad)
  | .fdiv => (match a, b with | .int i, .int j => if 0 < j ∧ j < 1073741824 then .ok (.int (i / j)) M else .bad | _, _ => .bad)
  | .mod => (match a, b with | .int i, .int j => if 0 < j then .ok (.int (i % j)) M else .bad | _, _ => .bad)
  | .pow => (match a, b with | .int i, .int j => if 0 ≤ j ∧ j ≤ 1000000 ∧ i.natAbs < 2 ^ 64 then .ok (.int (i ^ j.toNat)) M else .bad | _, _ => .bad)
def ordV (f : Int → Int → Bool) (a b : Vl) : Option Bool :=
  match a, b with
  | .int i, .int j => some (f i j)
  | _, _ => none
def isNon : Vl → Option Bool
  | .non => some true
  | .xc _ _ => none
  | .bl _ => some false
  | .int _ => some false
  | .str _ => some false
  | .tup _ => some false
  | .lst _ => some false
  | .ref _ => some false
  | .scr _ => some false
  | .dic => some false
def cmpV (op : Cop) (a b : Vl) (M : Mm) : Option Bool :=
  match op with
  | .eq => eqR M a b
  | .ne => (eqR M a b).map not
  | .lt => ordV (fun i j => decide (i < j)) a b
  | .le => ordV (fun i j => decide (i ≤ j)) a b
  | .gt => ordV (fun i j => decide (j < i)) a b
  | .ge => ordV (fun i j => decide (j ≤ i)) a b
  | .isn => isNon a
  | .nisn => (isNon a).map not
  | .in_ => (seq M b).bind fun l => inR M a l
  | .nin => ((seq M b).bind fun l => inR M a l).map not
/-- the place that an index tells -/
def place (n : Nat) (i : Int) : Option Nat :=
  if 0 ≤ i then (if i < n then some i.toNat else none) else if -(n : Int) ≤ i then some (i + n).toNat else none
def keyOf : Vl → Option L2.Key
  | .int i => some (.inl i)
  | .str s => some (.inr s)
  | _ => none
def lookK (k : L2.Key) : List (Vl × Vl) → Option Vl
  | [] => none
  | (a, b) :: r => if keyOf a = some k then some b else lookK k r
def putK (k w : Vl) (l : List (Vl × Vl)) : List (Vl × Vl) :=
  if (l.any fun p => decide (keyOf p.1 = keyOf k)) = true then l.map (fun p => if keyOf p.1 = keyOf k then (p.1, w) else p) else l ++ [(k, w)]
def mkD (l : List (Vl × Vl)) : List (Vl × Vl) := l.foldl (fun acc p => putK p.1 p.2 acc) []
def idxV (a i : Vl) (M : Mm) : R Vl :=
  match rd M a with
  | .tup l => (match i with | .int k => R.of ((place l.length k).bind fun j => l[j]?) M | _ => .bad)
  | .lst l => (match i with | .int k => R.of ((place l.length k).bind fun j => l[j]?) M | _ => .bad)
  | .ref n => (match M[n]?, keyOf i with
    | some (.dct kvs), some k => R.of (lookK k kvs) M
    | _, _ => .bad)
  | _ => .bad
/-- where a slice begins, ends -/
def cutAt (n d : Nat) : Option Int → Nat
  | none => d
  | some v => if v < 0 then (v + (n : Int)).toNat else min v.toNat n
def cutL (l : List Vl) (lo hi : Option Int) : List Vl :=
  (l.drop (cutAt l.length 0 lo)).take (cutAt l.length l.length hi - cutAt l.length 0 lo)
def slV (fz : Bool) (a : Vl) (lo hi : Option Int) (M : Mm) : R Vl :=
  match rd M a with
  | .tup l => .ok (.tup (cutL l lo hi)) M
  | .lst l => mkL fz (cutL l lo hi) M
  | .scr l => mkL fz (cutL l lo hi) M
  | _ => .bad
def intOf : Vl → Option Int
  | .int i => some i
  | _ => none

/-! ### built-ins -/
inductive Ty where
  | int | bool | str | tuple | list | dict
  deriving DecidableEq
inductive BI where
  | len | int | abs | repr | tuple | list (fz : Bool) | sorted (fz : Bool) | sset (fz : Bool) | sum | max1 | max2 | min1 | min2 | all | isi (t : Ty)
  deriving DecidableEq
def insTy (M : Mm) (w : Vl) (t : Ty) : Option Bool :=
  match rd M w with
  | .non => some false
  | .bl _ => some (decide (t = .bool) || decide (t = .int))
  | .int _ => some (decide (t = .int))
  | .str _ => some (decide (t = .str))
  | .tup _ => some (decide (t = .tuple))
  | .lst _ => some (decide (t = .list))
  | .dic => some (decide (t = .dict))
  | _ => none
def intsOf : List Vl → Option (List Int)
  | [] => some []
  | .int i :: r => (intsOf r).map (i :: ·)
  | _ :: _ => none
def boolsOf : List Vl → Option (List Bool)
  | [] => some []
  | .bl b :: r => (boolsOf r).map (b :: ·)
  | _ :: _ => none
/-- the order of data -/
def leV : Vl → Vl → Bool := PySem.W.dataLe false toD
def tupFull : Vl → Bool
  | .tup (_ :: _) => true
  | _ => false
def noTup : Vl → Bool
  | .non => false
  | .tup _ => false
  | _ => true
/-- alike data: all of one shape -/
def canSort (l : List Vl) : Prop :=
  pureL l = true ∧ (l.all fun x => l.all fun y => PySem.W.alike (toD x) (toD y)) = true ∧ (l.all tupFull = true ∨ l.all noTup = true) ∧ depL l ≤ depLine
instance (l : List Vl) : Decidable (canSort l) := inferInstanceAs (Decidable (_ ∧ _))
def sortV (l : List Vl) : List Vl := l.mergeSort leV
/-- each once -/
def onceV : List Vl → List Vl
  | [] => []
  | x :: r => if r.any (fun y => eqV y x) then onceV r else x :: onceV r
def maxI : List Int → Int
  | [] => 0
  | [a] => a
  | a :: r => max a (maxI r)
def minI : List Int → Int
  | [] => 0
  | [a] => a
  | a :: r => min a (minI r)
def shownV (w : Vl) : Str := PyData.shown (toD w)
def biV (b : BI) (ws : List Vl) (M : Mm) : R Vl :=
  match b, ws with
  | .len, [w] => (match rd M w with
    | .tup l => .ok (.int l.length) M
    | .lst l => .ok (.int l.length) M
    | .scr l => .ok (.int l.length) M
    | .str s => if s.length ≤ PySem.sizeLine then .ok (.int s.length) M else .bad
    | _ => .bad)
  | .int, [.int i] => .ok (.int i) M
  | .int, [.bl c] => .ok (.int (if c then 1 else 0)) M
  | .abs, [.int i] => .ok (.int i.natAbs) M
  | .repr, [w] => if pureR (rd M w) = true ∧ PyData.showable (toD (rd M w)) = true ∧ dep (rd M w) ≤ depLine ∧ (shownV (rd M w)).length ≤ PySem.sizeLine then .ok (.str (shownV (rd M w))) M else .bad
  | .tuple, [w] => R.of ((seq M w).map .tup) M
  | .list fz, [w] => (match seq M w with | some l => mkL fz l M | none => .bad)
  | .sorted fz, [w] => (match seqLst M w with | some l => if canSort l then mkL fz (sortV l) M else .bad | none => .bad)
  | .sset fz, [w] => (match seqLst M w with | some l => if canSort l then mkL fz (sortV (onceV l)) M else .bad | none => .bad)
  | .sum, [w] => R.of (((seqLst M w).bind intsOf).map fun l => .int l.sum) M
  | .max1, [w] => R.of (((seqLst M w).bind intsOf).bind fun l => if l = [] then none else some (.int (maxI l))) M
  | .min1, [w] => R.of (((seqLst M w).bind intsOf).bind fun l => if l = [] then none else some (.int (minI l))) M
  | .max2, [.int i, .int j] => .ok (.int (max i j)) M
  | .min2, [.int i, .int j] => .ok (.int (min i j)) M
  | .all, [w] => R.of (((seqLst M w).bind boolsOf).map fun l => .bl (l.all id)) M
  | .isi t, [w] => R.of ((insTy M w t).map .bl) M
  | _, _ => .bad
inductive BM where
  | append | pop | popAt | insert | extend | remove | index
  deriving DecidableEq
/-- the list in the cell n is l -/
def cellL (M : Mm) (n : Nat) : Option (List Vl) :=
  match M[n]? with
  | some (.lst l) => some l
  | _ => none
def setL (M : Mm) (n : Nat) (l : List Vl) : Mm := M.set n (.lst l)
def findV (x : Vl) : List Vl → Nat → Option Nat
  | [], _ => none
  | y :: r, k => if eqV y x then some k else findV x r (k + 1)
def methL (m : BM) (n : Nat) (l : List Vl) (ws : List Vl) (M : Mm) : R Vl :=
  match m, ws with
  | .append, [w] => if l.length < PySem.sizeLine then .ok .non (setL M n (l ++ [w])) else .bad
  | .pop, [] => (match l[l.length - 1]? with | some w => .ok w (setL M n l.dropLast) | none => .bad)
  | .popAt, [.int i] => (match (place l.length i).bind fun j => l[j]?, place l.length i with
    | some w, some j => .ok w (setL M n (l.eraseIdx j))
    | _, _ => .bad)
  | .insert, [.int i, w] => if l.length < PySem.sizeLine ∧ 0 ≤ i ∧ i < 2 ^ 63 then .ok .non (setL M n (l.take i.toNat ++ [w] ++ l.drop i.toNat)) else .bad
  | .extend, [w] => (match seqLst M w with | some l2 => if l.length + l2.length ≤ PySem.sizeLine then .ok .non (setL M n (l ++ l2)) else .bad | none => .bad)
  | .remove, [.int k] => (match intsOf l with | some is => if k ∈ is then .ok .non (setL M n ((is.erase k).map .int)) else .bad | none => .bad)
  | _, _ => .bad
def methV (m : BM) (o : Vl) (ws : List Vl) (M : Mm) : R Vl :=
  match m with
  | .index => (match seqLst M o, ws with
    | some l, [x] => (match inR M x l with | some true => R.of ((findV (rd M x) l 0).map fun k => .int k) M | _ => .bad)
    | _, _ => .bad)
  | m => (match o with
    | .ref n => (match cellL M n with | some l => methL m n l ws M | none => .bad)
    | _ => .bad)

/-! ### the syntax -/
inductive Tg where
  | nm (i : Nat)
  | tp (l : List Nat)
  deriving DecidableEq
mutual
inductive E where
  | var (i : Nat)
  | cst (w : Vl)
  | glb (x : String) (w : Vl)
  | dic
  | tup (es : Es)
  | lst (fz : Bool) (es : Es)
  | dct (ks vs : Es)
  | bin (op : Op2) (fz : Bool) (a b : E)
  | neg (a : E)
  | not (a : E)
  | and (a b : E)
  | or (a b : E)
  | cmp (op : Cop) (a b : E)
  | cmp2 (op op' : Cop) (a b c : E)
  | ite (c a b : E)
  | idx (a i : E)
  | sl (fz : Bool) (a : E) (lo hi : OE)
  | rev (fz : Bool) (a : E)
  | comp (fz : Bool) (el : E) (tg : Tg) (src : Sr) (cs : Es) (own : List Nat)
  | call (f : String) (es : Es)
  | callk (f : String) (es : Es) (ks : List Nat) (kes : Es)
  | bi (b : BI) (es : Es)
  | src (k : Bool) (fz : Bool) (s : Sr)
  | meth (m : BM) (o : E) (es : Es)
  | xfld (i : Nat) (f : String)
  | xisi (i : Nat) (c : String)
inductive Es where
  | nil
  | cons (e : E) (es : Es)
inductive OE where
  | no
  | so (e : E)
inductive Sr where
  | val (e : E)
  | enum (e : E)
  | zip (a b : E)
  | rng1 (a : E)
  | rng2 (a b : E)
end
mutual
inductive S where
  | expr (e : E)
  | set (i : Nat) (e : E)
  | setT (l : List Nat) (e : E)
  | par (l : List Nat) (es : Es)
  | setI (o i e : E)
  | augI (o i e : E)
  | augN (i : Nat) (e : E)
  | ret (e : E)
  | retN
  | ife (c : E) (a b : Ss)
  | for_ (tg : Tg) (src : Sr) (b : Ss)
  | while_ (c : E) (b : Ss)
  | raise (c : String) (es : Es)
  | try_ (b : Ss) (hs : Hs)
  | pass
  | brk
  | cnt
inductive Ss where
  | nil
  | cons (s : S) (r : Ss)
inductive Hs where
  | nil
  | cons (c : String) (i : Option Nat) (b : Ss) (r : Hs)
end

/-! ### the evaluator -/
abbrev CF := String → List Vl → Mm → R Vl
def bindT (tg : Tg) (w : Vl) (σ : Sl) (M : Mm) : Option Sl :=
  match tg with
  | .nm i => some (σ.set i (some w))
  | .tp l => (match w with
    | .tup ws => if ws.length = l.length then some ((l.zip ws).foldl (fun σ p => σ.set p.1 (some p.2)) σ) else none
    | _ => none)
def wipeS (σ : Sl) (l : List Nat) : Sl := l.foldr (fun i σ => σ.set i none) σ
mutual
def sameV : Vl → Vl → Bool
  | .non, .non => true
  | .bl a, .bl b => decide (a = b)
  | .int i, .int j => decide (i = j)
  | .str x, .str y => decide (x = y)
  | .tup l, .tup m => sameL l m
  | .lst l, .lst m => sameL l m
  | .ref i, .ref j => decide (i = j)
  | .xc c l, .xc d m => decide (c = d) && sameL l m
  | .scr l, .scr m => sameL l m
  | .dic, .dic => true
  | _, _ => false
def sameL : List Vl → List Vl → Bool
  | [], [] => true
  | x :: r, y :: s => sameV x y && sameL r s
  | _, _ => false
end
mutual
theorem sameV_eq : ∀ (x y : Vl), sameV x y = true → x = y
  | .non, y, h => by cases y <;> simp_all [sameV]
  | .bl a, y, h => by cases y <;> simp_all [sameV]
  | .int a, y, h => by cases y <;> simp_all [sameV]
  | .str a, y, h => by cases y <;> simp_all [sameV]
  | .ref a, y, h => by cases y <;> simp_all [sameV]
  | .dic, y, h => by cases y <;> simp_all [sameV]
  | .tup l, y, h => by
    cases y with
    | tup m => rw [sameL_eq l m (by simpa [sameV] using h)]
    | _ => simp [sameV] at h
  | .lst l, y, h => by
    cases y with
    | lst m => rw [sameL_eq l m (by simpa [sameV] using h)]
    | _ => simp [sameV] at h
  | .scr l, y, h => by
    cases y with
    | scr m => rw [sameL_eq l m (by simpa [sameV] using h)]
    | _ => simp [sameV] at h
  | .xc c l, y, h => by
    cases y with
    | xc d m =>
      have q : c = d ∧ sameL l m = true := by simpa [sameV] using h
      rw [sameL_eq l m q.2, q.1]
    | _ => simp [sameV] at h
theorem sameL_eq : ∀ (x y : List Vl), sameL x y = true → x = y
  | [], y, h => by cases y <;> simp_all [sameL]
  | a :: r, y, h => by
    cases y with
    | nil => simp [sameL] at h
    | cons b s =>
      have q : sameV a b = true ∧ sameL r s = true := by simpa [sameL] using h
      rw [sameV_eq a b q.1, sameL_eq r s q.2]
end
mutual
theorem sameV_refl : ∀ (x : Vl), sameV x x = true
  | .non | .bl _ | .int _ | .str _ | .ref _ | .dic => by simp [sameV]
  | .tup l => by simpa [sameV] using sameL_refl l
  | .lst l => by simpa [sameV] using sameL_refl l
  | .xc c l => by simpa [sameV] using sameL_refl l
  | .scr l => by simpa [sameV] using sameL_refl l
theorem sameL_refl : ∀ (x : List Vl), sameL x x = true
  | [] => by simp [sameL]
  | a :: r => by simp [sameL, sameV_refl a, sameL_refl r]
end
instance : DecidableEq Vl := fun x y => if h : sameV x y = true then .isTrue (sameV_eq x y h) else .isFalse fun e => h (e ▸ sameV_refl x)
instance : DecidableEq Cl := fun a b => match a, b with
  | .lst l, .lst m => if h : l = m then .isTrue (by rw [h]) else .isFalse fun e => h (Cl.lst.inj e)
  | .dct l, .dct m => if h : l = m then .isTrue (by rw [h]) else .isFalse fun e => h (Cl.dct.inj e)
  | .ins c l, .ins d m => if h : c = d ∧ l = m then .isTrue (by rw [h.1, h.2]) else .isFalse fun e => h (Cl.ins.inj e)
  | .lst _, .dct _ => .isFalse nofun
  | .lst _, .ins _ _ => .isFalse nofun
  | .dct _, .lst _ => .isFalse nofun
  | .dct _, .ins _ _ => .isFalse nofun
  | .ins _ _, .lst _ => .isFalse nofun
  | .ins _ _, .dct _ => .isFalse nofun
/-- the cells that a walk goes over, as they have to stay -/
abbrev Gd := List (Nat × List Vl)
def gdOk (M : Mm) : Gd → Prop
  | [] => True
  | (n, l) :: r => M[n]? = some (.lst l) ∧ gdOk M r
instance gdDec (M : Mm) : (g : Gd) → Decidable (gdOk M g)
  | [] => .isTrue trivial
  | (n, l) :: r => @instDecidableAnd _ _ (inferInstance) (gdDec M r)
def pairsV (l m : List Vl) : List Vl := (l.zip m).map fun p => .tup [p.1, p.2]
def enumV (l : List Vl) : List Vl := (l.zipIdx).map fun p => .tup [.int p.2, p.1]
def rngV (lo hi : Int) : List Vl := (List.range (hi - lo).toNat).map fun (k : Nat) => .int (lo + (k : Int))
def rngOk (i : Int) : Prop := -(2 ^ 62) ≤ i ∧ i < 2 ^ 62
instance (i : Int) : Decidable (rngOk i) := inferInstanceAs (Decidable (_ ∧ _))
/-- a comprehension's walk over its items -/
def compL (bd : Vl → Sl → Mm → Option Sl) (c : Sl → Mm → R Bool) (el : Sl → Mm → R Vl) (g : Gd) (σ : Sl) : List Vl → List Vl → Mm → R (List Vl)
  | [], acc, M => if gdOk M g then .ok acc M else .bad
  | x :: r, acc, M =>
    if gdOk M g then
      (match bd x σ M with
      | none => .bad
      | some σ1 => match c σ1 M with
        | .ok true M1 => (match el σ1 M1 with
          | .ok w M2 => if acc.length < PySem.sizeLine then compL bd c el g σ r (acc ++ [w]) M2 else .bad
          | _ => .bad)
        | .ok false M1 => compL bd c el g σ r acc M1
        | _ => .bad)
    else .bad
def lookC (c f : String) (ws : List Vl) (fld : String → Option String) : Option Vl :=
  match fld c, ws with
  | some g, [w] => if g = f then some w else none
  | _, _ => none
/-- the classes of exceptions: the field of each, which is under which -/
structure Kls where
  fld : String → Option (Option String)
  sub : String → String → Bool
/-- a name's value: a caught error is none -/
def varV : Option Vl → Option Vl
  | some (.xc _ _) => none
  | o => o
mutual
def evE (kl : Kls) (cf : CF) : E → Sl → Mm → R Vl
  | .var i, σ, M => R.of (varV ((σ[i]?).bind id)) M
  | .cst w, _, M => .ok w M
  | .glb _ w, _, M => .ok w M
  | .dic, _, M => .ok .dic M
  | .tup es, σ, M => (evEs kl cf es σ M).bind fun ws M1 => .ok (.tup ws) M1
  | .lst fz es, σ, M => (evEs kl cf es σ M).bind fun ws M1 => mkL fz ws M1
  | .dct ks vs, σ, M => (evEs kl cf vs σ M).bind fun ws M1 => (match evKs ks with
    | some kk => if kk.length = ws.length ∧ (kk.all fun k => (keyOf k).isSome) = true then .ok (.ref M1.length) (M1 ++ [.dct (mkD (kk.zip ws))]) else .bad
    | none => .bad)
  | .bin op fz a b, σ, M => (evE kl cf a σ M).bind fun x M1 => (evE kl cf b σ M1).bind fun y M2 => bin2 op fz x y M2
  | .neg a, σ, M => (evE kl cf a σ M).bind fun x M1 => (match x with | .int i => .ok (.int (-i)) M1 | _ => .bad)
  | .not a, σ, M => (evE kl cf a σ M).bind fun x M1 => R.of ((tru M1 x).map fun b => .bl (!b)) M1
  | .and a b, σ, M => (evE kl cf a σ M).bind fun x M1 => (match tru M1 x with
    | some true => evE kl cf b σ M1
    | some false => .ok x M1
    | none => .bad)
  | .or a b, σ, M => (evE kl cf a σ M).bind fun x M1 => (match tru M1 x with
    | some true => .ok x M1
    | some false => evE kl cf b σ M1
    | none => .bad)
  | .cmp op a b, σ, M => (evE kl cf a σ M).bind fun x M1 => (evE kl cf b σ M1).bind fun y M2 => R.of ((cmpV op x y M2).map .bl) M2
  | .cmp2 op op' a b c, σ, M => (evE kl cf a σ M).bind fun x M1 => (evE kl cf b σ M1).bind fun y M2 => (match cmpV op x y M2 with
    | some true => (evE kl cf c σ M2).bind fun z M3 => R.of ((cmpV op' y z M3).map .bl) M3
    | some false => .ok (.bl false) M2
    | none => .bad)
  | .ite c a b, σ, M => (evE kl cf c σ M).bind fun x M1 => (match tru M1 x with
    | some true => evE kl cf a σ M1
    | some false => evE kl cf b σ M1
    | none => .bad)
  | .idx a i, σ, M => (evE kl cf a σ M).bind fun x M1 => (evE kl cf i σ M1).bind fun y M2 => idxV x y M2
  | .sl fz a lo hi, σ, M => (evE kl cf a σ M).bind fun x M1 => (evOE kl cf lo σ M1).bind fun l M2 => (evOE kl cf hi σ M2).bind fun h M3 => slV fz x l h M3
  | .rev fz a, σ, M => (evE kl cf a σ M).bind fun x M1 => (match rd M1 x with
    | .lst l => mkL fz l.reverse M1
    | .tup l => .ok (.tup l.reverse) M1
    | _ => .bad)
  | .comp fz el tg src cs own, σ, M => (evSr kl cf src σ M).bind fun p M1 =>
      (compL (fun x σ M => bindT tg x σ M) (fun σ M => evCs kl cf cs σ M) (fun σ M => evE kl cf el σ M) p.2 (wipeS σ own) p.1 [] M1).bind fun ws M2 => mkL fz ws M2
  | .call f es, σ, M => (evEs kl cf es σ M).bind fun ws M1 => cf f ws M1
  | .callk f es ks kes, σ, M => (evEs kl cf es σ M).bind fun ws M1 => (evEs kl cf kes σ M1).bind fun zs M2 =>
      cf f (ks.map fun k => (ws ++ zs).getD k .non) M2
  | .bi b es, σ, M => (evEs kl cf es σ M).bind fun ws M1 => biV b ws M1
  | .src k fz s, σ, M => (evSr kl cf s σ M).bind fun p M1 => if p.1.length ≤ 16777216 then (if k = true then mkL fz p.1 M1 else .ok (.tup p.1) M1) else .bad
  | .meth m o es, σ, M => (evE kl cf o σ M).bind fun x M1 => (match seqLst M1 x with
    | some _ => (evEs kl cf es σ M1).bind fun ws M2 => methV m x ws M2
    | none => .bad)
  | .xfld i f, σ, M => (match (σ[i]?).bind id with
    | some (.xc c ws) => R.of (lookC c f ws fun c => (kl.fld c).bind id) M
    | _ => .bad)
  | .xisi i d, σ, M => (match (σ[i]?).bind id with
    | some (.xc c _) => .ok (.bl (kl.sub c d)) M
    | _ => .bad)
def evEs (kl : Kls) (cf : CF) : Es → Sl → Mm → R (List Vl)
  | .nil, _, M => .ok [] M
  | .cons e r, σ, M => (evE kl cf e σ M).bind fun w M1 => (evEs kl cf r σ M1).bind fun ws M2 => .ok (w :: ws) M2
/-- the keys of a display: texts -/
def evKs : Es → Option (List Vl)
  | .nil => some []
  | .cons (.cst w) r => (evKs r).map (w :: ·)
  | .cons _ _ => none
/-- a clause's tests -/
def evCs (kl : Kls) (cf : CF) : Es → Sl → Mm → R Bool
  | .nil, _, M => .ok true M
  | .cons e .nil, σ, M => (evE kl cf e σ M).bind fun x M1 => R.of (tru M1 x) M1
  | .cons _ _, _, _ => .bad
def evOE (kl : Kls) (cf : CF) : OE → Sl → Mm → R (Option Int)
  | .no, _, M => .ok none M
  | .so e, σ, M => (evE kl cf e σ M).bind fun x M1 => R.of ((intOf x).map some) M1
def evSr (kl : Kls) (cf : CF) : Sr → Sl → Mm → R (List Vl × Gd)
  | .val e, σ, M => (evE kl cf e σ M).bind fun x M1 => (match x with
    | .tup l => .ok (l, []) M1
    | .lst l => .ok (l, []) M1
    | .ref n => R.of ((cellL M1 n).map fun l => (l, [(n, l)])) M1
    | _ => .bad)
  | .enum e, σ, M => (evE kl cf e σ M).bind fun x M1 => (match x with
    | .tup l => .ok (enumV l, []) M1
    | .lst l => .ok (enumV l, []) M1
    | .ref n => R.of ((cellL M1 n).map fun l => (enumV l, [(n, l)])) M1
    | _ => .bad)
  | .zip a b, σ, M => (evE kl cf a σ M).bind fun x M1 => (evE kl cf b σ M1).bind fun y M2 => (match x, y with
    | .tup l, .tup m => .ok (pairsV l m, []) M2
    | .lst l, .lst m => .ok (pairsV l m, []) M2
    | .lst l, .ref n => R.of ((cellL M2 n).map fun m => (pairsV l m, [(n, m)])) M2
    | .ref n, .lst m => R.of ((cellL M2 n).map fun l => (pairsV l m, [(n, l)])) M2
    | .ref n, .ref k => R.of ((cellL M2 n).bind fun l => (cellL M2 k).map fun m => (pairsV l m, [(n, l), (k, m)])) M2
    | _, _ => .bad)
  | .rng1 a, σ, M => (evE kl cf a σ M).bind fun x M1 => (match x with
    | .int j => if rngOk j then .ok (rngV 0 j, []) M1 else .bad
    | _ => .bad)
  | .rng2 a b, σ, M => (evE kl cf a σ M).bind fun x M1 => (evE kl cf b σ M1).bind fun y M2 => (match x, y with
    | .int i, .int j => if rngOk i ∧ rngOk j then .ok (rngV i j, []) M2 else .bad
    | _, _ => .bad)
end

/-! ### statements -/
inductive RS where
  | nx (σ : Sl) (m : Mm)
  | brk (σ : Sl) (m : Mm)
  | cnt (σ : Sl) (m : Mm)
  | ret (w : Vl) (m : Mm)
  | exc (c : String) (ws : List Vl) (σ : Sl) (m : Mm)
  | bad
/-- an expression first -/
def R.thn {α : Type} (r : R α) (σ : Sl) (f : α → Mm → RS) : RS :=
  match r with
  | .ok a m => f a m
  | .exc c ws m => .exc c ws σ m
  | .bad => .bad
@[simp] theorem R.thn_ok {α : Type} (a : α) (m : Mm) (σ : Sl) (f : α → Mm → RS) : (R.ok a m).thn σ f = f a m := rfl
@[simp] theorem R.thn_exc {α : Type} (c : String) (ws : List Vl) (m : Mm) (σ : Sl) (f : α → Mm → RS) : (R.exc c ws m : R α).thn σ f = .exc c ws σ m := rfl
@[simp] theorem R.thn_bad {α : Type} (σ : Sl) (f : α → Mm → RS) : (R.bad : R α).thn σ f = .bad := rfl
def RS.thn (r : RS) (f : Sl → Mm → RS) : RS :=
  match r with
  | .nx σ m => f σ m
  | r => r
@[simp] theorem RS.thn_nx (σ : Sl) (m : Mm) (f : Sl → Mm → RS) : (RS.nx σ m).thn f = f σ m := rfl
@[simp] theorem RS.thn_brk (σ : Sl) (m : Mm) (f : Sl → Mm → RS) : (RS.brk σ m).thn f = .brk σ m := rfl
@[simp] theorem RS.thn_cnt (σ : Sl) (m : Mm) (f : Sl → Mm → RS) : (RS.cnt σ m).thn f = .cnt σ m := rfl
@[simp] theorem RS.thn_ret (w : Vl) (m : Mm) (f : Sl → Mm → RS) : (RS.ret w m).thn f = .ret w m := rfl
@[simp] theorem RS.thn_exc (c : String) (ws : List Vl) (σ : Sl) (m : Mm) (f : Sl → Mm → RS) : (RS.exc c ws σ m).thn f = .exc c ws σ m := rfl
@[simp] theorem RS.thn_bad (f : Sl → Mm → RS) : RS.bad.thn f = .bad := rfl
def forL (bd : Vl → Sl → Mm → Option Sl) (body : Sl → Mm → RS) (g : Gd) : List Vl → Sl → Mm → RS
  | [], σ, M => if gdOk M g then .nx σ M else .bad
  | x :: r, σ, M =>
    if gdOk M g then
      (match bd x σ M with
      | none => .bad
      | some σ1 => match body σ1 M with
        | .nx σ2 M2 => forL bd body g r σ2 M2
        | .cnt σ2 M2 => forL bd body g r σ2 M2
        | .brk σ2 M2 => .nx σ2 M2
        | .ret w M2 => .ret w M2
        | .exc c ws σ2 M2 => .exc c ws σ2 M2
        | .bad => .bad)
    else .bad
def whileL (c : Sl → Mm → R Bool) (body : Sl → Mm → RS) : Nat → Sl → Mm → RS
  | 0, _, _ => .bad
  | n + 1, σ, M => (c σ M).thn σ fun b M1 =>
    match b with
    | false => .nx σ M1
    | true => match body σ M1 with
      | .nx σ2 M2 => whileL c body n σ2 M2
      | .cnt σ2 M2 => whileL c body n σ2 M2
      | .brk σ2 M2 => .nx σ2 M2
      | .ret w M2 => .ret w M2
      | .exc c ws σ2 M2 => .exc c ws σ2 M2
      | .bad => .bad
def wFuel : Nat := 1000000
def setIV (o i w : Vl) (M : Mm) : Option Mm :=
  match o with
  | .ref n => (match M[n]? with
    | some (.lst l) => (match i with | .int k => (place l.length k).map fun j => M.set n (.lst (l.set j w)) | _ => none)
    | some (.dct kvs) => (match keyOf i with | some _ => if kvs.length < PySem.sizeLine then some (M.set n (.dct (putK i w kvs))) else none | none => none)
    | _ => none)
  | _ => none
/-- an item of a list that changes -/
def augGet (x y : Vl) (M : Mm) : R Vl :=
  match x, y with
  | .ref n, .int k => R.of ((cellL M n).bind fun l => (place l.length k).bind fun j => l[j]?) M
  | _, _ => .bad
def setAll (l : List Nat) (ws : List Vl) (σ : Sl) : Sl := (l.zip ws).foldl (fun σ p => σ.set p.1 (some p.2)) σ
mutual
def evS (kl : Kls) (cf : CF) : S → Sl → Mm → RS
  | .expr e, σ, M => (evE kl cf e σ M).thn σ fun _ M1 => .nx σ M1
  | .set i e, σ, M => (evE kl cf e σ M).thn σ fun w M1 => .nx (σ.set i (some w)) M1
  | .setT l e, σ, M => (evE kl cf e σ M).thn σ fun w M1 => (match w with
    | .tup ws => if ws.length = l.length then .nx (setAll l ws σ) M1 else .bad
    | _ => .bad)
  | .par l es, σ, M => (evEs kl cf es σ M).thn σ fun ws M1 => if ws.length = l.length then .nx (setAll l ws σ) M1 else .bad
  | .setI o i e, σ, M => (evE kl cf e σ M).thn σ fun w M1 => (evE kl cf o σ M1).thn σ fun x M2 => (evE kl cf i σ M2).thn σ fun y M3 =>
      (match setIV x y w M3 with | some M4 => .nx σ M4 | none => .bad)
  | .augI o i e, σ, M => (evE kl cf o σ M).thn σ fun x M1 => (evE kl cf i σ M1).thn σ fun y M2 => (augGet x y M2).thn σ fun v M3 =>
      (evE kl cf e σ M3).thn σ fun w M4 => (match v, w with
        | .int a, .int b => (match setIV x y (.int (a + b)) M4 with | some M5 => .nx σ M5 | none => .bad)
        | _, _ => .bad)
  | .augN i e, σ, M => (match (σ[i]?).bind id with
    | some (.int a) => (evE kl cf e σ M).thn σ fun w M1 => (match w with
      | .int b => .nx (σ.set i (some (.int (a + b)))) M1
      | _ => .bad)
    | _ => .bad)
  | .ret e, σ, M => (evE kl cf e σ M).thn σ fun w M1 => .ret w M1
  | .retN, _, M => .ret .non M
  | .ife c a b, σ, M => (evE kl cf c σ M).thn σ fun x M1 => (match tru M1 x with
    | some true => evSs kl cf a σ M1
    | some false => evSs kl cf b σ M1
    | none => .bad)
  | .for_ tg src b, σ, M => (evSr kl cf src σ M).thn σ fun p M1 => forL (fun x σ M => bindT tg x σ M) (fun σ M => evSs kl cf b σ M) p.2 p.1 σ M1
  | .while_ c b, σ, M => whileL (fun σ M => (evE kl cf c σ M).bind fun x M1 => R.of (tru M1 x) M1) (fun σ M => evSs kl cf b σ M) wFuel σ M
  | .raise c es, σ, M => (evEs kl cf es σ M).thn σ fun ws M1 => .exc c ws σ M1
  | .try_ b hs, σ, M => (match evSs kl cf b σ M with
    | .exc c ws σ1 M1 => evHs kl cf c ws hs σ1 M1
    | r => r)
  | .pass, σ, M => .nx σ M
  | .brk, σ, M => .brk σ M
  | .cnt, σ, M => .cnt σ M
def evSs (kl : Kls) (cf : CF) : Ss → Sl → Mm → RS
  | .nil, σ, M => .nx σ M
  | .cons s r, σ, M => (evS kl cf s σ M).thn fun σ1 M1 => evSs kl cf r σ1 M1
def evHs (kl : Kls) (cf : CF) (c : String) (ws : List Vl) : Hs → Sl → Mm → RS
  | .nil, σ, M => .exc c ws σ M
  | .cons d i b r, σ, M => if kl.sub c d = true then
      (match i with
      | none => (match evSs kl cf b σ M with | .exc _ _ _ _ => .bad | r => r)
      | some i => (match evSs kl cf b (σ.set i (some (.xc c ws))) M with
        | .nx σ1 M1 => .nx (σ1.set i none) M1
        | .brk σ1 M1 => .brk (σ1.set i none) M1
        | .cnt σ1 M1 => .cnt (σ1.set i none) M1
        | .ret w M1 => .ret w M1
        | .exc _ _ _ _ => .bad
        | .bad => .bad))
    else evHs kl cf c ws r σ M
end

/-! ### calls -/
structure Fn where
  np : Nat
  nl : Nat
  fz : Bool
  body : Ss
abbrev Tbl := String → Option Fn
def Cl.below (n : Nat) : Cl → Bool
  | .lst l => belowL n l
  | .dct l => l.all fun p => Sg.below n p.1 && Sg.below n p.2
  | .ins _ l => l.all fun p => Sg.below n p.2
/-- the old cells stay, or hold old cells alone -/
def keepsOk (n : Nat) : Mm → Mm → Prop
  | c :: r, c' :: r' => (c = c' ∨ c'.below n = true) ∧ keepsOk n r r'
  | [], _ => True
  | _ :: _, [] => False
instance keepsDec (n : Nat) : (M M' : Mm) → Decidable (keepsOk n M M')
  | [], _ => .isTrue trivial
  | _ :: _, [] => .isFalse id
  | c :: r, c' :: r' => @instDecidableAnd _ _ inferInstance (keepsDec n r r')
/-- new cells that leave: they will stay as they are -/
def frz (n : Nat) (M : Mm) : Nat → Vl → Vl
  | 0, w => w
  | k + 1, w => if below n w = true then w else
    match w with
    | .ref i => (match M[i]? with | some (.lst l) => .lst (l.map (frz n M k)) | _ => w)
    | .tup l => .tup (l.map (frz n M k))
    | .lst l => .lst (l.map (frz n M k))
    | w => w
def frzFuel : Nat := 6
def leaveV (n : Nat) (M M' : Mm) (w : Vl) : R Vl :=
  if keepsOk n M M' ∧ below n (frz n M' frzFuel w) = true then .ok (frz n M' frzFuel w) (M'.take n) else .bad
def leave (fz : Bool) (M : Mm) (r : RS) : R Vl :=
  match r with
  | .ret w M' => if fz = true then leaveV M.length M M' w else .ok w M'
  | .nx _ M' => if fz = true then leaveV M.length M M' .non else .ok .non M'
  | .exc c ws _ M' => if fz = true then
      (if keepsOk M.length M M' ∧ belowL M.length (ws.map (frz M.length M' frzFuel)) = true then .exc c (ws.map (frz M.length M' frzFuel)) (M'.take M.length) else .bad)
      else .exc c ws M'
  | _ => .bad
def startS (F : Fn) (ws : List Vl) : Sl := ws.map some ++ List.replicate (F.nl - F.np) none
def evCall (kl : Kls) (T : Tbl) : Nat → CF
  | 0, _, _, _ => .bad
  | n + 1, f, ws, M => match T f with
    | none => .bad
    | some F => if ws.length = F.np then leave F.fz M (evSs kl (evCall kl T n) F.body (startS F ws) M) else .bad
end Sg
end

section
set_option Elab.async false
set_option linter.all false
set_option maxRecDepth 100000
/-! Sg, part 2: how the evaluator's values and cells lie in the hand layer's heap. -/
namespace Sg
open PySem L2

/-- where we are: the abstract heap, the addresses of what may change, those of the cells -/
structure Ws where
  H : Hp
  U : Addr → Prop
  as : List Addr
def noHp : Hp := fun _ => none
def FzT (K : PySem.W.Frag) (T : Ws) (a : Addr) (xs : List V) : Prop := (Rd T.H a (.tup xs) ∧ ¬ T.U a) ∨ SqT K noHp a xs
def FzL (T : Ws) (a : Addr) (xs : List V) : Prop := T.H a = some (.lst xs) ∧ ¬ T.U a
/-- an empty dict that never changes -/
def FzD (T : Ws) (a : Addr) : Prop := T.H a = some (.dK []) ∧ ¬ T.U a
def FzS (K : PySem.W.Frag) (T : Ws) (a : Addr) (xs : List V) : Prop := (Rd T.H a (.lst xs) ∧ ¬ T.U a) ∨ SqL K noHp a xs
theorem no_rd {a : Addr} {u : HO} : ¬ Rd noHp a u := fun h => by
  rcases h with h | ⟨o, h⟩
  · exact nomatch (show (none : Option HO) = some u from h)
  · exact nomatch (show (none : Option HO) = some (.frz o u) from h)
theorem FzT.sq {K : PySem.W.Frag} {T : Ws} {a : Addr} {xs : List V} (h : FzT K T a xs) : SqT K T.H a xs := by
  rcases h with h | h
  · exact .inl h.1
  · rcases h with h | h
    · exact absurd h no_rd
    · exact .inr h
theorem FzL.sq {K : PySem.W.Frag} {T : Ws} {a : Addr} {xs : List V} (h : FzL T a xs) : SqL K T.H a xs := .inl (.inl h.1)
theorem FzS.sq {K : PySem.W.Frag} {T : Ws} {a : Addr} {xs : List V} (h : FzS K T a xs) : SqL K T.H a xs := by
  rcases h with h | h
  · exact .inl h.1
  · rcases h with h | h
    · exact absurd h no_rd
    · exact .inr h
mutual
inductive IsV (K : PySem.W.Frag) (T : Ws) : V → Vl → Prop
  | non : IsV K T .non .non
  | bl (b : Bool) : IsV K T (.bl b) (.bl b)
  | int (i : Int) : IsV K T (.int i) (.int i)
  | str (s : Str) : IsV K T (.str s) (.str s)
  | tup {a : Addr} {xs : List V} {ws : List Vl} : FzT K T a xs → IsVs K T xs ws → IsV K T (.ref a) (.tup ws)
  | lst {a : Addr} {xs : List V} {ws : List Vl} : FzL T a xs → IsVs K T xs ws → IsV K T (.ref a) (.lst ws)
  | ref {a : Addr} {n : Nat} : T.as[n]? = some a → IsV K T (.ref a) (.ref n)
  | scr {a : Addr} {xs : List V} {ws : List Vl} : FzS K T a xs → IsVs K T xs ws → IsV K T (.ref a) (.scr ws)
  | dic {a : Addr} : FzD T a → IsV K T (.ref a) .dic
inductive IsVs (K : PySem.W.Frag) (T : Ws) : List V → List Vl → Prop
  | nil : IsVs K T [] []
  | cons {x : V} {xs : List V} {w : Vl} {ws : List Vl} : IsV K T x w → IsVs K T xs ws → IsVs K T (x :: xs) (w :: ws)
end
/-- what stays stays -/
structure Exw (T T' : Ws) : Prop where
  keep : ∀ a o, T.H a = some o → ¬ T.U a → T'.H a = some o
  new : ∀ a, T'.U a → T.U a ∨ T.H a = none
  pre : ∃ more, T'.as = T.as ++ more
/-- further on -/
structure Ext (T T' : Ws) : Prop extends Exw T T' where
  thr : ∀ a, T.H a ≠ none → T'.H a ≠ none
  sub : ∀ a, T.U a → T'.U a
  hold : ∀ a o, T.H a = some o → a ∉ T.as → T'.H a = some o
  fre : ∃ more, T'.as = T.as ++ more ∧ ∀ a ∈ more, T.H a = none
def UH (T : Ws) : Prop := ∀ a, T.U a → T.H a ≠ none
theorem Ext.refl (T : Ws) : Ext T T := ⟨⟨fun _ _ h _ => h, fun _ h => .inl h, ⟨[], by simp⟩⟩, fun _ h => h, fun _ h => h, fun _ _ h _ => h, ⟨[], by simp, by simp⟩⟩
theorem Exw.rd {T T' : Ws} (e : Exw T T') {a : Addr} {u : HO} (h : Rd T.H a u) (n : ¬ T.U a) : Rd T'.H a u := by
  rcases h with h | ⟨o, h⟩
  · exact .inl (e.keep a _ h n)
  · exact .inr ⟨o, e.keep a _ h n⟩
theorem rd_some {H : Hp} {a : Addr} {u : HO} (h : Rd H a u) : H a ≠ none := by
  rcases h with h | ⟨o, h⟩ <;> (rw [h]; simp)
theorem Exw.nu {T T' : Ws} (e : Exw T T') {a : Addr} (h : T.H a ≠ none) (n : ¬ T.U a) : ¬ T'.U a := fun q => by
  rcases e.new a q with z | z
  · exact n z
  · exact h z
theorem Ext.nu {T T' : Ws} (e : Ext T T') {a : Addr} (h : T.H a ≠ none) (n : ¬ T.U a) : ¬ T'.U a := e.toExw.nu h n
theorem FzT.exw {K : PySem.W.Frag} {T T' : Ws} {a : Addr} {xs : List V} (h : FzT K T a xs) (e : Exw T T') : FzT K T' a xs := by
  rcases h with ⟨h, n⟩ | h
  · exact .inl ⟨e.rd h n, e.nu (rd_some h) n⟩
  · exact .inr h
theorem FzL.exw {T T' : Ws} {a : Addr} {xs : List V} (h : FzL T a xs) (e : Exw T T') : FzL T' a xs := ⟨e.keep a _ h.1 h.2, e.nu (by rw [h.1]; simp) h.2⟩
theorem FzD.exw {T T' : Ws} {a : Addr} (h : FzD T a) (e : Exw T T') : FzD T' a := ⟨e.keep a _ h.1 h.2, e.nu (by rw [h.1]; simp) h.2⟩
theorem FzS.exw {K : PySem.W.Frag} {T T' : Ws} {a : Addr} {xs : List V} (h : FzS K T a xs) (e : Exw T T') : FzS K T' a xs := by
  rcases h with ⟨h, n⟩ | h
  · exact .inl ⟨e.rd h n, e.nu (rd_some h) n⟩
  · exact .inr h
theorem FzT.ext {K : PySem.W.Frag} {T T' : Ws} {a : Addr} {xs : List V} (h : FzT K T a xs) (e : Ext T T') : FzT K T' a xs := h.exw e.toExw
theorem FzL.ext {T T' : Ws} {a : Addr} {xs : List V} (h : FzL T a xs) (e : Ext T T') : FzL T' a xs := h.exw e.toExw
theorem FzS.ext {K : PySem.W.Frag} {T T' : Ws} {a : Addr} {xs : List V} (h : FzS K T a xs) (e : Ext T T') : FzS K T' a xs := h.exw e.toExw
theorem Exw.as {T T' : Ws} (e : Exw T T') {n : Nat} {a : Addr} (h : T.as[n]? = some a) : T'.as[n]? = some a := by
  obtain ⟨more, q⟩ := e.pre
  have hl : n < T.as.length := (List.getElem?_eq_some_iff.mp h).1
  rw [q, List.getElem?_append_left hl]
  exact h
theorem Ext.as {T T' : Ws} (e : Ext T T') {n : Nat} {a : Addr} (h : T.as[n]? = some a) : T'.as[n]? = some a := e.toExw.as h
mutual
theorem IsV.exw {K : PySem.W.Frag} {T T' : Ws} (e : Exw T T') : ∀ {v : V} {w : Vl}, IsV K T v w → IsV K T' v w
  | _, _, .non => .non
  | _, _, .bl b => .bl b
  | _, _, .int i => .int i
  | _, _, .str s => .str s
  | _, _, .tup h r => .tup (h.exw e) (IsVs.exw e r)
  | _, _, .lst h r => .lst (h.exw e) (IsVs.exw e r)
  | _, _, .ref h => .ref (e.as h)
  | _, _, .scr h r => .scr (h.exw e) (IsVs.exw e r)
  | _, _, .dic h => .dic (h.exw e)
theorem IsVs.exw {K : PySem.W.Frag} {T T' : Ws} (e : Exw T T') : ∀ {v : List V} {w : List Vl}, IsVs K T v w → IsVs K T' v w
  | _, _, .nil => .nil
  | _, _, .cons h r => .cons (h.exw e) (IsVs.exw e r)
end
theorem IsV.ext {K : PySem.W.Frag} {T T' : Ws} (e : Ext T T') {v : V} {w : Vl} (h : IsV K T v w) : IsV K T' v w := h.exw e.toExw
theorem IsVs.ext {K : PySem.W.Frag} {T T' : Ws} (e : Ext T T') {v : List V} {w : List Vl} (h : IsVs K T v w) : IsVs K T' v w := h.exw e.toExw
theorem Ext.trans {T T1 T2 : Ws} (a : Ext T T1) (b : Ext T1 T2) : Ext T T2 where
  keep := fun x o h n => b.keep x o (a.keep x o h n) (a.nu (by rw [h]; simp) n)
  thr := fun x h => b.thr x (a.thr x h)
  sub := fun x h => b.sub x (a.sub x h)
  new := fun x h => by
    rcases b.new x h with z | z
    · exact a.new x z
    · cases q : T.H x with
      | none => exact .inr rfl
      | some o => exact absurd z (a.thr x (by rw [q]; simp))
  hold := fun x o h n => by
    obtain ⟨m1, e1, n1⟩ := a.fre
    refine b.hold x o (a.hold x o h n) fun z => ?_
    rw [e1] at z
    rcases List.mem_append.mp z with z | z
    · exact n z
    · rw [n1 x z] at h; cases h
  pre := by
    obtain ⟨m1, e1⟩ := a.pre
    obtain ⟨m2, e2⟩ := b.pre
    exact ⟨m1 ++ m2, by rw [e2, e1, List.append_assoc]⟩
  fre := by
    obtain ⟨m1, e1, n1⟩ := a.fre
    obtain ⟨m2, e2, n2⟩ := b.fre
    refine ⟨m1 ++ m2, by rw [e2, e1, List.append_assoc], fun x hx => ?_⟩
    rcases List.mem_append.mp hx with hx | hx
    · exact n1 x hx
    · cases q : T.H x with
      | none => rfl
      | some o => exact absurd (n2 x hx) (a.thr x (by rw [q]; simp))

/-! ### memory -/
def CellOk (K : PySem.W.Frag) (T : Ws) (a : Addr) : Cl → Prop
  | .lst ws => ∃ xs, T.H a = some (.lst xs) ∧ IsVs K T xs ws
  | .dct kvs => ∃ kv : List (Key × V), T.H a = some (.dK kv) ∧ Paired (fun (p : Key × V) (q : Vl × Vl) => keyOf q.1 = some p.1 ∧ IsV K T p.2 q.2) kv kvs
  | .ins _ _ => False
structure RelM (K : PySem.W.Frag) (T : Ws) (M : Mm) : Prop where
  nd : T.as.Nodup
  inU : ∀ a ∈ T.as, T.U a
  uH : ∀ a, T.U a → T.H a ≠ none
  ce : Paired (CellOk K T) T.as M
/-- what a program's classes of errors are, where they lie -/
structure Pg where
  K : PySem.W.Frag
  kl : Kls
  cA : String → Option Addr
  xr : Ws → Nat → V → String → List Vl → Prop
  xm : ∀ T T' i v c ws, Ext T T' → xr T i v c ws → xr T' i v c ws
def IsX (G : Pg) (T : Ws) (cls : Value) (d : Option Addr) (c : String) (ws : List Vl) : Prop :=
  ∃ C, G.cA c = some C ∧ cls = .ref C ∧ (match G.kl.fld c with
    | none => False
    | some none => ws = [] ∧ d = none
    | some (some f) => ∃ (dd : Addr) (v : V) (w : Vl), d = some dd ∧ ws = [w] ∧ T.H dd = some (.xd [(Str.ofString f, v)]) ∧ ¬ T.U dd ∧ IsV G.K T v w)
theorem IsX.ext {G : Pg} {T T' : Ws} {cls : Value} {d : Option Addr} {c : String} {ws : List Vl} (h : IsX G T cls d c ws) (e : Ext T T') : IsX G T' cls d c ws := by
  obtain ⟨C, h1, h2, h3⟩ := h
  refine ⟨C, h1, h2, ?_⟩
  split at h3
  · exact h3
  · exact h3
  · obtain ⟨dd, v, w, q1, q2, q3, q4, q5⟩ := h3
    exact ⟨dd, v, w, q1, q2, e.keep _ _ q3 q4, e.nu (by rw [q3]; simp) q4, q5.ext e⟩
structure RelS (G : Pg) (T : Ws) (s : St) (σ : Sl) : Prop where
  len : s.length = σ.length
  val : ∀ (i : Nat) (w : Vl), σ[i]? = some (some w) → ∃ v, s[i]? = some (some v) ∧ (IsV G.K T v w ∨ ∃ c ws, w = .xc c ws ∧ G.xr T i v c ws)
theorem RelS.ext {G : Pg} {T T' : Ws} {s : St} {σ : Sl} (r : RelS G T s σ) (e : Ext T T') : RelS G T' s σ :=
  ⟨r.len, fun i w h => by
    obtain ⟨v, h1, h2⟩ := r.val i w h
    rcases h2 with h2 | ⟨c, ws, rfl, h2⟩
    · exact ⟨v, h1, .inl (h2.ext e)⟩
    · exact ⟨v, h1, .inr ⟨c, ws, rfl, G.xm _ _ _ _ _ _ e h2⟩⟩⟩
theorem RelS.set {G : Pg} {T : Ws} {s : St} {σ : Sl} {v : V} {w : Vl} (r : RelS G T s σ) (i : Nat) (h : IsV G.K T v w) : RelS G T (s.set i (some v)) (σ.set i (some w)) := by
  refine ⟨by simp [r.len], fun j w' hj => ?_⟩
  by_cases e : i = j
  · subst e
    have hl : i < σ.length := by
      have := (List.getElem?_eq_some_iff.mp hj).1
      simpa using this
    rw [List.getElem?_set_self hl] at hj
    cases hj
    exact ⟨v, by rw [List.getElem?_set_self (by rw [r.len]; exact hl)], .inl h⟩
  · rw [List.getElem?_set_ne e] at hj
    obtain ⟨v', h1, h2⟩ := r.val j w' hj
    exact ⟨v', by rw [List.getElem?_set_ne e]; exact h1, h2⟩
theorem RelS.unset {G : Pg} {T : Ws} {s : St} {σ : Sl} (r : RelS G T s σ) (i : Nat) (o : Option V) : RelS G T (s.set i o) (σ.set i none) := by
  refine ⟨by simp [r.len], fun j w' hj => ?_⟩
  by_cases e : i = j
  · subst e
    by_cases hl : i < σ.length
    · rw [List.getElem?_set_self hl] at hj
      cases hj
    · rw [List.getElem?_eq_none (by simpa using hl)] at hj
      cases hj
  · rw [List.getElem?_set_ne e] at hj
    obtain ⟨v', h1, h2⟩ := r.val j w' hj
    exact ⟨v', by rw [List.getElem?_set_ne e]; exact h1, h2⟩
theorem IsVs.length {K : PySem.W.Frag} {T : Ws} : ∀ {xs : List V} {ws : List Vl}, IsVs K T xs ws → xs.length = ws.length
  | _, _, .nil => rfl
  | _, _, .cons _ r => by rw [List.length_cons, List.length_cons, IsVs.length r]
theorem IsVs.get {K : PySem.W.Frag} {T : Ws} : ∀ {xs : List V} {ws : List Vl} {i : Nat} {w : Vl}, IsVs K T xs ws → ws[i]? = some w → ∃ x, xs[i]? = some x ∧ IsV K T x w
  | _, _, _, _, .nil, h => by simp at h
  | _, _, 0, _, .cons a _, h => by simp at h; subst h; exact ⟨_, rfl, a⟩
  | _, _, i + 1, _, .cons _ r, h => by
    obtain ⟨x, h1, h2⟩ := IsVs.get (i := i) r (by simpa using h)
    exact ⟨x, by simpa using h1, h2⟩
theorem IsVs.append {K : PySem.W.Frag} {T : Ws} : ∀ {xs ys : List V} {ws zs : List Vl}, IsVs K T xs ws → IsVs K T ys zs → IsVs K T (xs ++ ys) (ws ++ zs)
  | _, _, _, _, .nil, s => s
  | _, _, _, _, .cons a r, s => .cons a (IsVs.append r s)
theorem IsVs.take {K : PySem.W.Frag} {T : Ws} : ∀ {xs : List V} {ws : List Vl} (n : Nat), IsVs K T xs ws → IsVs K T (xs.take n) (ws.take n)
  | _, _, 0, _ => .nil
  | _, _, _ + 1, .nil => .nil
  | _, _, n + 1, .cons a r => .cons a (IsVs.take n r)
theorem IsVs.drop {K : PySem.W.Frag} {T : Ws} : ∀ {xs : List V} {ws : List Vl} (n : Nat), IsVs K T xs ws → IsVs K T (xs.drop n) (ws.drop n)
  | _, _, 0, r => r
  | _, _, _ + 1, .nil => .nil
  | _, _, n + 1, .cons _ r => IsVs.drop n r
theorem IsVs.set {K : PySem.W.Frag} {T : Ws} {x : V} {w : Vl} (h : IsV K T x w) : ∀ {xs : List V} {ws : List Vl} (n : Nat), IsVs K T xs ws → IsVs K T (xs.set n x) (ws.set n w)
  | _, _, _, .nil => .nil
  | _, _, 0, .cons _ r => .cons h r
  | _, _, n + 1, .cons a r => .cons a (IsVs.set h n r)
theorem IsVs.erase {K : PySem.W.Frag} {T : Ws} : ∀ {xs : List V} {ws : List Vl} (n : Nat), IsVs K T xs ws → IsVs K T (xs.eraseIdx n) (ws.eraseIdx n)
  | _, _, _, .nil => .nil
  | _, _, 0, .cons _ r => r
  | _, _, n + 1, .cons a r => .cons a (IsVs.erase n r)
theorem IsVs.dropLast {K : PySem.W.Frag} {T : Ws} {xs : List V} {ws : List Vl} (h : IsVs K T xs ws) : IsVs K T xs.dropLast ws.dropLast := by
  rw [List.dropLast_eq_take, List.dropLast_eq_take, h.length]
  exact h.take _
theorem IsVs.reverse {K : PySem.W.Frag} {T : Ws} : ∀ {xs : List V} {ws : List Vl}, IsVs K T xs ws → IsVs K T xs.reverse ws.reverse
  | _, _, .nil => .nil
  | _, _, .cons a r => by
    rw [List.reverse_cons, List.reverse_cons]
    exact (IsVs.reverse r).append (.cons a .nil)
theorem IsVs.rep {K : PySem.W.Frag} {T : Ws} {xs : List V} {ws : List Vl} (h : IsVs K T xs ws) : ∀ n : Nat, IsVs K T (List.replicate n xs).flatten (List.replicate n ws).flatten
  | 0 => .nil
  | n + 1 => by
    rw [List.replicate_succ, List.replicate_succ, List.flatten_cons, List.flatten_cons]
    exact h.append (IsVs.rep h n)
theorem pairedGet {α β : Type} {F : α → β → Prop} : ∀ {l : List α} {m : List β} {i : Nat} {y : β}, Paired F l m → m[i]? = some y → ∃ x, l[i]? = some x ∧ F x y
  | _, _, _, _, .nil, h => by simp at h
  | _, _, 0, _, .cons a _, h => by simp at h; subst h; exact ⟨_, rfl, a⟩
  | _, _, i + 1, _, .cons _ r, h => by
    obtain ⟨x, h1, h2⟩ := pairedGet (i := i) r (by simpa using h)
    exact ⟨x, by simpa using h1, h2⟩
theorem pairedLen {α β : Type} {F : α → β → Prop} : ∀ {l : List α} {m : List β}, Paired F l m → l.length = m.length
  | _, _, .nil => rfl
  | _, _, .cons _ r => by rw [List.length_cons, List.length_cons, pairedLen r]
theorem pairedApp {α β : Type} {F : α → β → Prop} : ∀ {l l' : List α} {m m' : List β}, Paired F l m → Paired F l' m' → Paired F (l ++ l') (m ++ m')
  | _, _, _, _, .nil, s => s
  | _, _, _, _, .cons a r, s => .cons a (pairedApp r s)
theorem pairedMap {α β : Type} {F F' : α → β → Prop} : ∀ {l : List α} {m : List β}, Paired F l m → (∀ x y, x ∈ l → F x y → F' x y) → Paired F' l m
  | _, _, .nil, _ => .nil
  | _, _, .cons a r, f => .cons (f _ _ List.mem_cons_self a) (pairedMap r fun x y h => f x y (List.mem_cons_of_mem _ h))
theorem pairedSet {α β : Type} {F : α → β → Prop} {x : α} {y : β} : ∀ {l : List α} {m : List β} {i : Nat}, Paired F l m → l[i]? = some x → F x y → Paired F l (m.set i y)
  | _, _, _, .nil, _, _ => .nil
  | _, _, 0, .cons _ r, e, h => by simp at e; subst e; exact .cons h r
  | _, _, i + 1, .cons a r, e, h => .cons a (pairedSet r (by simpa using e) h)
theorem CellOk.exw {K : PySem.W.Frag} {T T' : Ws} {a : Addr} {c : Cl} (h : CellOk K T a c) (e : Exw T T') (k : ∀ o, T.H a = some o → T'.H a = some o) : CellOk K T' a c := by
  cases c with
  | lst ws =>
    obtain ⟨xs, h1, h2⟩ := h
    exact ⟨xs, k _ h1, h2.exw e⟩
  | dct kvs =>
    obtain ⟨kv, h1, h2⟩ := h
    exact ⟨kv, k _ h1, pairedMap h2 fun x y _ z => ⟨z.1, z.2.exw e⟩⟩
  | ins c l => exact h
theorem CellOk.ext {K : PySem.W.Frag} {T T' : Ws} {a : Addr} {c : Cl} (h : CellOk K T a c) (e : Ext T T') (k : ∀ o, T.H a = some o → T'.H a = some o) : CellOk K T' a c := h.exw e.toExw k
/-- a cell as it lies -/
theorem RelM.get {K : PySem.W.Frag} {T : Ws} {M : Mm} (r : RelM K T M) {n : Nat} {c : Cl} (h : M[n]? = some c) : ∃ a, T.as[n]? = some a ∧ T.U a ∧ CellOk K T a c := by
  obtain ⟨a, h1, h2⟩ := pairedGet r.ce h
  exact ⟨a, h1, r.inU a (List.mem_of_getElem? h1), h2⟩
/-- something new, that will stay as it is -/
theorem fresh_fz {K : PySem.W.Frag} {T : Ws} {M : Mm} (r : RelM K T M) {p : Addr} (hp : T.H p = none) (o : HO) :
    Ext T ⟨upd T.H p o, T.U, T.as⟩ ∧ RelM K ⟨upd T.H p o, T.U, T.as⟩ M ∧ ¬ T.U p := by
  have ne : ∀ a u, T.H a = some u → a ≠ p := fun a u h z => by rw [z, hp] at h; cases h
  have np : ¬ T.U p := fun u => r.uH p u hp
  have e : Ext T ⟨upd T.H p o, T.U, T.as⟩ := ⟨⟨fun a u h _ => by show upd T.H p o a = _; rw [upd_ne (ne a u h)]; exact h, fun _ h => .inl h, ⟨[], by simp⟩⟩, fun a h => by
    show upd T.H p o a ≠ none
    cases q : T.H a with
    | none => exact absurd q h
    | some u => rw [upd_ne (ne a u q), q]; simp, fun _ h => h, fun a u h _ => by show upd T.H p o a = _; rw [upd_ne (ne a u h)]; exact h, ⟨[], by simp, by simp⟩⟩
  refine ⟨e, ⟨r.nd, r.inU, fun a h => e.thr a (r.uH a h), pairedMap r.ce fun a c ha h => h.ext e fun u hu => ?_⟩, np⟩
  show upd T.H p o a = _
  rw [upd_ne (ne a u hu)]; exact hu
/-- a new cell -/
theorem fresh_cell {K : PySem.W.Frag} {T : Ws} {M : Mm} (r : RelM K T M) {p : Addr} (hp : T.H p = none) (o : HO) (c : Cl)
    (hc : ∀ T', T'.H = upd T.H p o → Ext T T' → CellOk K T' p c) :
    Ext T ⟨upd T.H p o, fun a => T.U a ∨ a = p, T.as ++ [p]⟩ ∧ RelM K ⟨upd T.H p o, fun a => T.U a ∨ a = p, T.as ++ [p]⟩ (M ++ [c]) := by
  have ne : ∀ a u, T.H a = some u → a ≠ p := fun a u h z => by rw [z, hp] at h; cases h
  have np : ¬ T.U p := fun u => r.uH p u hp
  have e : Ext T ⟨upd T.H p o, fun a => T.U a ∨ a = p, T.as ++ [p]⟩ := ⟨⟨fun a u h _ => by show upd T.H p o a = _; rw [upd_ne (ne a u h)]; exact h, fun a h => by
      rcases h with h | h
      · exact .inl h
      · subst h; exact .inr hp, ⟨[p], rfl⟩⟩, fun a h => by
    show upd T.H p o a ≠ none
    cases q : T.H a with
    | none => exact absurd q h
    | some u => rw [upd_ne (ne a u q), q]; simp, fun _ h => .inl h, fun a u h _ => by show upd T.H p o a = _; rw [upd_ne (ne a u h)]; exact h, ⟨[p], rfl, fun a ha => by
        rw [List.mem_singleton.mp ha]; exact hp⟩⟩
  refine ⟨e, ⟨?_, fun a ha => ?_, fun a h => ?_, pairedApp (pairedMap r.ce fun a c ha h => h.ext e fun u hu => ?_) (.cons (hc _ rfl e) .nil)⟩⟩
  · show (T.as ++ [p]).Nodup
    rw [List.nodup_append]
    refine ⟨r.nd, by simp, fun a ha b hb => ?_⟩
    rw [List.mem_singleton.mp hb]
    intro z
    subst z
    exact np (r.inU _ ha)
  · rcases List.mem_append.mp ha with h | h
    · exact .inl (r.inU a h)
    · exact .inr (List.mem_singleton.mp h)
  · rcases h with h | h
    · exact e.thr a (r.uH a h)
    · subst h
      show upd T.H a o a ≠ none
      rw [upd_same]; simp
  · show upd T.H p o a = _
    rw [upd_ne (ne a u hu)]; exact hu
/-- a cell is written -/
theorem put_cell {K : PySem.W.Frag} {T : Ws} {M : Mm} (r : RelM K T M) {n : Nat} {p : Addr} (hn : T.as[n]? = some p) (o : HO) (c : Cl)
    (hc : ∀ T', T'.H = upd T.H p o → Ext T T' → CellOk K T' p c) :
    Ext T ⟨upd T.H p o, T.U, T.as⟩ ∧ RelM K ⟨upd T.H p o, T.U, T.as⟩ (M.set n c) := by
  have up : T.U p := r.inU p (List.mem_of_getElem? hn)
  have e : Ext T ⟨upd T.H p o, T.U, T.as⟩ := ⟨⟨fun a u h nu => by
    have : a ≠ p := fun z => nu (z ▸ up)
    show upd T.H p o a = _
    rw [upd_ne this]; exact h, fun _ h => .inl h, ⟨[], by simp⟩⟩, fun a h => by
    show upd T.H p o a ≠ none
    by_cases z : a = p
    · subst z; rw [upd_same]; simp
    · rw [upd_ne z]; exact h, fun _ h => h, fun a u h na => by
    have : a ≠ p := fun z => na (z ▸ List.mem_of_getElem? hn)
    show upd T.H p o a = _
    rw [upd_ne this]; exact h, ⟨[], by simp, by simp⟩⟩
  refine ⟨e, ⟨r.nd, r.inU, fun a h => e.thr a (r.uH a h), ?_⟩⟩
  have hce := r.ce
  have nd := r.nd
  -- all cells but the n-th
  have go : ∀ (as : List Addr) (M : Mm) (n : Nat), as.Nodup → as[n]? = some p → Paired (CellOk K T) as M → Paired (CellOk K ⟨upd T.H p o, T.U, T.as⟩) as (M.set n c) := by
    intro as
    induction as with
    | nil => intro M n _ h _; simp at h
    | cons a as ih =>
      intro M n nd h hp
      cases hp with
      | cons h1 h2 =>
        have ndc := List.nodup_cons.mp nd
        cases n with
        | zero =>
          simp at h
          subst h
          refine .cons (hc _ rfl e) (pairedMap h2 fun x y hx hy => hy.ext e fun u hu => ?_)
          show upd T.H a o x = _
          rw [upd_ne (show x ≠ a from fun z => ndc.1 (by rw [← z]; exact hx))]; exact hu
        | succ n =>
          have h' : as[n]? = some p := by simpa using h
          refine .cons (h1.ext e fun u hu => ?_) (ih _ n ndc.2 h' h2)
          show upd T.H p o a = _
          rw [upd_ne (show a ≠ p from fun z => ndc.1 (by rw [z]; exact List.mem_of_getElem? h'))]; exact hu
  exact go T.as M n nd hn hce
/-- a list made at p, as the flag has it -/
theorem mkL_ok {K : PySem.W.Frag} {T : Ws} {M : Mm} {fz : Bool} {ws : List Vl} {xs : List V} (r : RelM K T M) (hx : IsVs K T xs ws) {p : Addr} (hp : T.H p = none) :
    ∃ w M' T', mkL fz ws M = .ok w M' ∧ T'.H = upd T.H p (.lst xs) ∧ Ext T T' ∧ RelM K T' M' ∧ IsV K T' (.ref p) w := by
  cases fz with
  | true =>
    obtain ⟨e, rm, np⟩ := fresh_fz r hp (.lst xs)
    exact ⟨.lst ws, M, _, rfl, rfl, e, rm, .lst ⟨upd_same, np⟩ (hx.ext e)⟩
  | false =>
    obtain ⟨e, rm⟩ := fresh_cell r hp (.lst xs) (.lst ws) fun T' hT e' => ⟨xs, by rw [hT, upd_same], hx.ext e'⟩
    refine ⟨.ref M.length, M ++ [.lst ws], _, rfl, rfl, e, rm, .ref ?_⟩
    show (T.as ++ [p])[M.length]? = some p
    rw [← pairedLen r.ce]
    simp
/-! ### a list under way: nobody names it, it stays as it is but for its own maker -/
structure Held (T1 T : Ws) (D : Addr) (o : HO) : Prop where
  ext : Ext T1 T
  fr : T1.H D = none
  at_ : T.H D = some o
  inU : T.U D
  na : D ∉ T.as
theorem held_new {K : PySem.W.Frag} {T : Ws} {M : Mm} (r : RelM K T M) {p : Addr} (hp : T.H p = none) (o : HO) : ∃ T', T'.H = upd T.H p o ∧ Held T T' p o ∧ RelM K T' M := by
  have ne : ∀ a u, T.H a = some u → a ≠ p := fun a u h z => by rw [z, hp] at h; cases h
  have np : ¬ T.U p := fun u => r.uH p u hp
  have e : Ext T ⟨upd T.H p o, fun a => T.U a ∨ a = p, T.as⟩ := ⟨⟨fun a u h _ => by show upd T.H p _ a = _; rw [upd_ne (ne a u h)]; exact h, fun a h => by
      rcases h with h | h
      · exact .inl h
      · subst h; exact .inr hp, ⟨[], by simp⟩⟩, fun a h => by
    show upd T.H p _ a ≠ none
    cases q : T.H a with
    | none => exact absurd q h
    | some u => rw [upd_ne (ne a u q), q]; simp, fun _ h => .inl h, fun a u h _ => by show upd T.H p _ a = _; rw [upd_ne (ne a u h)]; exact h, ⟨[], by simp, by simp⟩⟩
  refine ⟨⟨upd T.H p o, fun a => T.U a ∨ a = p, T.as⟩, rfl, ⟨e, hp, upd_same, .inr rfl, fun z => np (r.inU p z)⟩, ⟨r.nd, fun a ha => .inl (r.inU a ha), fun a h => ?_, pairedMap r.ce fun a c ha h => h.ext e fun u hu => ?_⟩⟩
  · rcases h with h | h
    · exact e.thr a (r.uH a h)
    · subst h
      show upd T.H a _ a ≠ none
      rw [upd_same]; simp
  · show upd T.H p _ a = _
    rw [upd_ne (ne a u hu)]; exact hu
theorem Held.more {T1 T T' : Ws} {D : Addr} {o : HO} (h : Held T1 T D o) (e : Ext T T') : Held T1 T' D o := by
  refine ⟨h.ext.trans e, h.fr, e.hold D _ h.at_ h.na, e.sub D h.inU, fun z => ?_⟩
  obtain ⟨m, e1, n1⟩ := e.fre
  rw [e1] at z
  rcases List.mem_append.mp z with z | z
  · exact h.na z
  · have := n1 D z
    rw [h.at_] at this
    cases this
theorem Held.put {K : PySem.W.Frag} {T1 T : Ws} {M : Mm} {D : Addr} {o : HO} (o' : HO) (h : Held T1 T D o) (r : RelM K T M) : ∃ T', T'.H = upd T.H D o' ∧ Exw T T' ∧ Held T1 T' D o' ∧ RelM K T' M := by
  have e : Exw T ⟨upd T.H D o', T.U, T.as⟩ := ⟨fun a u q nu => by
    have : a ≠ D := fun z => nu (z ▸ h.inU)
    show upd T.H D _ a = _
    rw [upd_ne this]; exact q, fun _ h => .inl h, ⟨[], by simp⟩⟩
  have ne : ∀ a u, T1.H a = some u → a ≠ D := fun a u q z => by rw [z, h.fr] at q; cases q
  have th : ∀ a, T.H a ≠ none → upd T.H D o' a ≠ none := fun a q => by
    by_cases z : a = D
    · subst z; rw [upd_same]; simp
    · rw [upd_ne z]; exact q
  refine ⟨⟨upd T.H D o', T.U, T.as⟩, rfl, e, ⟨⟨⟨fun a u q nu => ?_, h.ext.new, h.ext.pre⟩, fun a q => th a (h.ext.thr a q), h.ext.sub, fun a u q na => ?_, h.ext.fre⟩, h.fr, upd_same, h.inU, h.na⟩,
    ⟨r.nd, r.inU, fun a q => th a (r.uH a q), pairedMap r.ce fun a c ha hc => hc.exw e fun u hu => ?_⟩⟩
  · show upd T.H D _ a = _
    rw [upd_ne (ne a u q)]; exact h.ext.keep a u q nu
  · show upd T.H D _ a = _
    rw [upd_ne (ne a u q)]; exact h.ext.hold a u q na
  · show upd T.H D _ a = _
    rw [upd_ne (show a ≠ D from fun z => h.na (z ▸ ha))]; exact hu
/-- it is done, and is a cell from now on -/
theorem Held.cell {K : PySem.W.Frag} {T1 T : Ws} {M : Mm} {D : Addr} {o : HO} (h : Held T1 T D o) (r : RelM K T M) (c : Cl) (hc : ∀ T', T'.H = T.H → Exw T T' → CellOk K T' D c) :
    ∃ T', T'.H = T.H ∧ Ext T1 T' ∧ RelM K T' (M ++ [c]) ∧ IsV K T' (.ref D) (.ref M.length) ∧ Exw T T' := by
  have e : Exw T ⟨T.H, T.U, T.as ++ [D]⟩ := ⟨fun a u q _ => q, fun a q => .inl q, ⟨[D], rfl⟩⟩
  refine ⟨⟨T.H, T.U, T.as ++ [D]⟩, rfl, ⟨⟨h.ext.keep, h.ext.new, ?_⟩, h.ext.thr, h.ext.sub, h.ext.hold, ?_⟩,
    ⟨?_, fun a ha => ?_, r.uH, pairedApp (pairedMap r.ce fun a c ha hc => hc.exw e fun u hu => hu) (.cons (hc _ rfl e) .nil)⟩, .ref ?_, e⟩
  · obtain ⟨m, q⟩ := h.ext.pre
    exact ⟨m ++ [D], by show T.as ++ [D] = _; rw [q, List.append_assoc]⟩
  · obtain ⟨m, q, n⟩ := h.ext.fre
    refine ⟨m ++ [D], by show T.as ++ [D] = _; rw [q, List.append_assoc], fun a ha => ?_⟩
    rcases List.mem_append.mp ha with z | z
    · exact n a z
    · rw [List.mem_singleton.mp z]; exact h.fr
  · show (T.as ++ [D]).Nodup
    rw [List.nodup_append]
    refine ⟨r.nd, by simp, fun a ha b hb => ?_⟩
    rw [List.mem_singleton.mp hb]
    exact fun z => h.na (z ▸ ha)
  · rcases List.mem_append.mp ha with z | z
    · exact r.inU a z
    · rw [List.mem_singleton.mp z]; exact h.inU
  · show (T.as ++ [D])[M.length]? = some D
    rw [← pairedLen r.ce]
    simp
/-- it is done -/
theorem Held.done {K : PySem.W.Frag} {T1 T : Ws} {M : Mm} {D : Addr} {acc : List V} {ws : List Vl} {fz : Bool} (h : Held T1 T D (.lst acc)) (r1 : UH T1) (r : RelM K T M) (i : IsVs K T acc ws) :
    ∃ w M' T', mkL fz ws M = .ok w M' ∧ T'.H = T.H ∧ Ext T1 T' ∧ RelM K T' M' ∧ IsV K T' (.ref D) w := by
  cases fz with
  | true =>
    have e : Exw T ⟨T.H, fun a => T.U a ∧ a ≠ D, T.as⟩ := ⟨fun a u q _ => q, fun a q => .inl q.1, ⟨[], by simp⟩⟩
    have nD : ∀ a, T1.U a → a ≠ D := fun a u z => r1 a u (z ▸ h.fr)
    refine ⟨.lst ws, M, ⟨T.H, fun a => T.U a ∧ a ≠ D, T.as⟩, rfl, rfl, ⟨⟨h.ext.keep, fun a q => h.ext.new a q.1, h.ext.pre⟩, h.ext.thr, fun a q => ⟨h.ext.sub a q, nD a q⟩, h.ext.hold, h.ext.fre⟩,
      ⟨r.nd, fun a ha => ⟨r.inU a ha, fun z => h.na (z ▸ ha)⟩, fun a q => r.uH a q.1, pairedMap r.ce fun a c ha hc => hc.exw e fun u hu => hu⟩, .lst ⟨h.at_, fun z => z.2 rfl⟩ (i.exw e)⟩
  | false =>
    obtain ⟨T', q1, q2, q3, q4, q5⟩ := h.cell r (.lst ws) fun T' hT e => ⟨acc, by rw [hT]; exact h.at_, i.exw e⟩
    exact ⟨.ref M.length, M ++ [.lst ws], T', rfl, q1, q2, q3, q4⟩
end Sg
end

section
set_option Elab.async false
set_option linter.all false
set_option maxRecDepth 100000
set_option maxHeartbeats 4000000
/-! Sg, part 2c: () * n, t[::-1] of tuples. -/
namespace Sg
open PySem PySem.Spec PyProof.Rows L2
theorem tuple_mul0 (l : Addr) (n : Nat) (x : Int) (u : Tok) (c0 : (decide (x < -(2 ^ 63)) || decide (x ≥ 2 ^ 63)) = false) :
    Meets (Builtin.«tuple.__mul__» ⟨[.ref l, .int x u], []⟩) (fun _ R s => (∃ o : Obj, s.heap.get? l = some o ∧ o.cls = .type "tuple" ∧ o.data = .seq #[] n) ∧
      R (.ok (.ret (.ref l))) s) :=
  .of_wp fun prog w A R s h => by
    obtain ⟨hp, g, d, tk, os⟩ := s
    obtain ⟨⟨⟨cls, dd, data, sl⟩, hl, hc, hd⟩, h⟩ := h
    simp only at hc hd
    subst hc hd
    have f1 := AutoSeq1.idx_int
    wp_walk using PySem.AutoSeq1.wpAny_loadPart' hl
    repeat (first
      | (refine wpAny_ite_false (decide_eq_false (by rw [c0]; exact Bool.false_ne_true)) ?_; wp_walk using PySem.AutoSeq1.wpAny_loadPart' hl)
      | (refine wpAny_ite_true (by simp) ?_; wp_walk using PySem.AutoSeq1.wpAny_loadPart' hl))
    exact ⟨_, rfl, h⟩
def rRep0 (K : PySem.W.Frag) : R2 := fun x y H Q => ∃ l k, x = .ref l ∧ y = .int k ∧ SqT K H l [] ∧ -(2 ^ 63) ≤ k ∧ k < 2 ^ 63 ∧ Q (.ref l) H
section
variable {X : Cx}
theorem op_rep0 : OpR X (binaryOp .Mult) (rRep0 X.K) := by
  intro pins s σ H x y v u Q I rx ry h
  obtain ⟨l, k, rfl, rfl, hT, h1, h2, q⟩ := h
  cases rx
  obtain ⟨t, rfl⟩ := ry
  obtain ⟨its, r, ⟨o, ho, hc, n, hd⟩, hs⟩ := I.tuple hT
  have hi : its = [] := List.eq_nil_of_length_eq_zero r.length.symm
  subst hi
  have c0 : (decide (k < -(2 ^ 63)) || decide (k ≥ 2 ^ 63)) = false := by
    rw [decide_eq_false (by omega), decide_eq_false (by omega)] <;> rfl
  obtain ⟨cls, dd, data, sl⟩ := o
  simp only at hc hd
  subst hc hd
  refine wpAny_binaryOp_repeat_ref (T := "tuple") (U := "int") (by decide) ⟨_, ho, rfl⟩ (fun s' => typeIs_int s' k t) noFill_tuple_mul F.fills_int_mul F.slot_int_rmul repeat_tuple F.slot_int_index.lookup
    (call_meets F.slot_int_rmul (typeIs_int s k t) F.entry_int_rmul (F.args_int_rmul_2 _ _) (int_rmul_tuple k t l _ n dd sl)
      ⟨ho, rfl, ⟨_, ho, rfl⟩, call_meets F.slot_tuple_mul ⟨_, ho, rfl⟩ F.entry_tuple_mul (F.args_tuple_mul_2 _ _) (tuple_mul0 l n k t c0) ⟨⟨_, ho, rfl, rfl⟩, ?_⟩⟩)
  exact ⟨.ref l, H, I, rfl, q⟩
end

/-! ### t[::-1] -/
section
variable {prog : Program} {w : World} {A : Around} {E : Value → Shared → Prop} {s : Shared}
theorem places_rev (n : Nat) : Builtin.Slice.slicePlaces ((n : Int) - 1) (-1) (-1) = n := by
  unfold Builtin.Slice.slicePlaces
  simp only [show ¬ ((-1 : Int) > 0) by omega, if_false, show (- -1 : Int) = 1 by omega, Int.ediv_one]
  split <;> omega
theorem adjust_rev (n : Nat) : Builtin.Slice.sliceAdjust none none (-1) (n : Int) = ((n : Int) - 1, -1) := by
  unfold Builtin.Slice.sliceAdjust
  simp
theorem fm_congr {α β : Type} {f g : α → Option β} : ∀ {l : List α}, (∀ a ∈ l, f a = g a) → l.filterMap f = l.filterMap g
  | [], _ => rfl
  | a :: l, h => by
    rw [List.filterMap_cons, List.filterMap_cons, h a (List.mem_cons_self ..), fm_congr fun b hb => h b (List.mem_cons_of_mem _ hb)]
theorem pick_rev (xs : Array Value) : ((List.range xs.size).filterMap fun (m : Nat) => xs[(((xs.size : Int) - 1) + (m : Int) * (-1)).toNat]?).toArray = xs.toList.reverse.toArray := by
  have e : (List.range xs.size).filterMap (fun (m : Nat) => xs[(((xs.size : Int) - 1) + (m : Int) * (-1)).toNat]?) = ((List.range xs.size).map fun k => xs.size - 1 - k).filterMap (xs[·]?) := by
    rw [List.filterMap_map]
    refine fm_congr fun k hk => ?_
    have := List.mem_range.mp hk
    have q : (((xs.size : Int) - 1) + (k : Int) * (-1)).toNat = xs.size - 1 - k := by omega
    rw [q]
    rfl
  rw [e, PySem.W.krv_range, List.filterMap_reverse, PySem.W.krv_all]
theorem sliceApplied_rev {sl : Addr} {vs : Value} {n : Nat} {Q : Int × Int × Nat → Shared → Prop} (hs : s.heap.IsSliceOf sl .none .none vs) (ps : IsPart vs (some (-1)))
    (h : Q ((n : Int) - 1, -1, n) s) : wpAny (model prog w) A (Builtin.Slice.sliceApplied (.ref sl) (pure (n : Int))) Q E s := by
  obtain ⟨os, hos, hcs, hds⟩ := id hs
  unfold Builtin.Slice.sliceApplied Builtin.Slice.sliceFields
  refine wpAny_bind (wpAny_bind (wpAny_field hos hds (x := .none) rfl (wpAny_bind (wpAny_field hos hds (x := .none) rfl (wpAny_bind (wpAny_field hos hds (x := vs) rfl (wpAny_pure ?_)))))))
  refine wpAny_bind (HT.slicePart_ ps ?_)
  show wpAny _ _ (if ((-1 : Int) == 0) = true then _ else _) _ _ s
  rw [if_neg (by decide)]
  refine wpAny_bind (slicePart_none (wpAny_bind (slicePart_none (wpAny_bind (wpAny_pure ?_)))))
  show wpAny _ _ (match Builtin.Slice.sliceAdjust none none (-1) (n : Int) with | (lo, hi) => pure (lo, (-1 : Int), Builtin.Slice.slicePlaces lo hi (-1))) _ _ s
  rw [adjust_rev n]
  show wpAny _ _ (pure ((n : Int) - 1, (-1 : Int), Builtin.Slice.slicePlaces ((n : Int) - 1) (-1) (-1))) _ _ s
  rw [places_rev]
  exact wpAny_pure h
theorem getItem_tuple_rev {t sl : Addr} {items : Array Value} {vs : Value} {Q : Value → Shared → Prop} (ht : IsTup s.heap t items) (hs : s.heap.IsSliceOf sl .none .none vs) (ps : IsPart vs (some (-1)))
    (h : Q (.ref s.heap.objs.size) { s with heap := s.heap.push { cls := .type "tuple", data := .seq items.toList.reverse.toArray } })
    (hsz : items.size ≤ sizeLine) : wpAny (model prog w) A (getItem (.ref t) (.ref sl)) Q E s := by
  have htake : sizeOk (.seq items.toList.reverse.toArray) := by
    show items.toList.reverse.toArray.size ≤ sizeLine
    rw [List.size_toArray, List.length_reverse, Array.length_toList]
    exact hsz
  obtain ⟨os, hos, hcs, hds⟩ := id hs
  have hTs : s.TypeIs (.ref sl) "slice" := ⟨os, hos, hcs⟩
  unfold getItem
  try with_reducible refine wpAny_holding ?_
  first | refine wpAny_bind (wpAny_pure ?_) | skip
  refine wpAny_bind (wpAny_sequenceKey ht.typeIs (by decide) ?_)
  refine wpAny_bind (wpAny_callSpecial?_slot (name := Str.ofString "__getitem__") ht.typeIs PyProof.Rows.slot_tuple_getitem
    (wpAny_call_entry PyProof.Rows.slot_tuple_getitem ht.typeIs entry_tuple_getitem ?_ (args_tuple_getitem _ _)))
  show wpAny _ _ (Builtin.Tuple.tupleItemsOf (.ref t) >>= _) _ _ s
  refine wpAny_bind (tupleItemsOf_ ht ?_)
  refine wpAny_bind (wpAny_typeOf hTs ?_)
  rw [if_pos (by decide)]
  refine wpAny_bind (sliceApplied_rev hs ps ?_)
  have hno : ¬ ((((items.size : Int) - 1) == 0 && (-1 : Int) == 1 && items.size == items.size) = true) := by
    simp
  show wpAny _ _ (if (((items.size : Int) - 1) == 0 && (-1 : Int) == 1 && items.size == items.size) = true then _ else _) _ _ s
  rw [if_neg hno, pick_rev]
  first
    | exact wpAny_bind (m := Builtin.Tuple.tupleExact _) (wpAny_newObj_type (wpAny_pure ⟨_, rfl, wpAny_pure h⟩) htake)
    | exact wpAny_bind (m := Builtin.Tuple.tupleExact _) (wpAny_newObj_type (wpAny_bind (wpAny_pure (wpAny_pure ⟨_, rfl, wpAny_pure h⟩))) htake)
    | exact wpAny_bind (wpAny_bind (m := Builtin.Tuple.tupleExact _) (wpAny_newObj_type (wpAny_pure (wpAny_pure ⟨_, rfl, wpAny_pure h⟩)) htake))
    | exact wpAny_bind (wpAny_bind (m := Builtin.Tuple.tupleExact _) (wpAny_newObj_type (wpAny_pure ⟨_, rfl, wpAny_pure h⟩) htake))
end
def tRevW (K : PySem.W.Frag) (te : TE) : TE := fun σ H Q => te σ H fun x H1 => ∃ a xs, x = .ref a ∧
  ((SqL K H1 a xs ∧ ∀ p, H1 p = none → Q (.ref p) (upd H1 p (.lst xs.reverse))) ∨ (SqT K H1 a xs ∧ ∀ p, H1 p = none → Q (.ref p) (upd H1 p (.tup xs.reverse))))
theorem pe_revW {X : Cx} {e : Expr} {te : TE} {k : Nat} {p1 p2 p3 pos : Pos} (he : PE X e te) : PE X (.Subscript e (.Slice none none (some (.UnaryOp .USub (.Constant (.int 1) k p1) p2)) p3) pos) (tRevW X.K te) := by
  refine ⟨fun pins s σ H Q I h => ?_⟩
  refine Subscript_ (thn (he.run pins s σ H _ I h) fun v s1 ⟨x, H1, I1, r1, q1⟩ => ?_)
  obtain ⟨a, xs, ex, q1⟩ := q1
  subst ex
  cases r1
  have hst : PO X (some (.UnaryOp .USub (.Constant (.int 1) k p1) p2)) (tPart (tUn (rU fun i => .int (-i)) (tC (.int 1)))) := po_some (pe_un un_neg pe_int)
  refine wpAny_Slice (thn (po_none.run pins s1 σ H1 (fun o H2 => o = none ∧ H2 = H1) I1 ⟨rfl, rfl⟩) fun vl s2 ⟨l, H2, I2, pl, el, e2⟩ => ?_)
  subst el e2
  refine thn (po_none.run pins s2 σ H2 (fun o H3 => o = none ∧ H3 = H2) I2 ⟨rfl, rfl⟩) fun vu s3 ⟨u, H3, I3, pu, eu, e3⟩ => ?_
  subst eu e3
  refine thn (hst.run pins s3 σ H3 (fun o H4 => o = some (-1) ∧ H4 = H3) I3 ⟨1, rfl, -1, rfl, rfl, rfl⟩) fun vs s4 ⟨o, H4, I4, ps, eo, e4⟩ => ?_
  subst eo e4
  have I5 : Inv X pins σ H4 { s4 with heap := s4.heap.push { cls := .type "slice", data := .fields #[vl, vu, vs] } } := I4.kept (t' := s4.toks) fun b ob q => Heap.get?_push_of_some _ q
  show wpAny (model X.prog X.w) X.A (subscriptTail e (.Slice none none (some (.UnaryOp .USub (.Constant (.int 1) k p1) p2)) p3) (.ref a) (.ref s4.heap.objs.size)) (EP X pins σ Q) X.xe { s4 with heap := s4.heap.push { cls := .type "slice", data := .fields #[vl, vu, vs] } }
  rcases q1 with ⟨hx, q⟩ | ⟨hx, q⟩
  · obtain ⟨its, r, ht, hz⟩ := I5.list hx
    have hlen := r.length
    refine tail_any (ops := [.ref a, .ref s4.heap.objs.size]) ht.isList.typeIs (PySem.slot_list_getitem.lookup) ?_ (by with_unfolding_all rfl)
    refine wpAny_getItem_list_slice ht.isList (Heap.IsSliceOf.new _ vl vu vs) pl pu ps (by decide) ?_ (by rw [List.size_toArray]; omega)
    rw [PySem.W.krv_pick]
    refine ⟨.ref _, _, I5.laid (t' := s4.toks) (o := .lst xs.reverse) (fun b ob q => Heap.get?_push_of_some _ q) (Nat.le_refl _) ?_, rfl, q _ (I5.hok.fresh (Nat.le_refl _))⟩
    exact ⟨by rw [List.length_reverse]; exact hz, _, 0, r.reverse, Heap.get?_push_size _ rfl⟩
  · cases pl
    cases pu
    obtain ⟨its, r, ht, hz⟩ := I5.tuple hx
    have hlen := r.length
    refine tail_any (ops := [.ref a, .ref s4.heap.objs.size]) ht.typeIs (PyProof.Rows.slot_tuple_getitem.lookup) ?_ (by with_unfolding_all rfl)
    refine getItem_tuple_rev ht (Heap.IsSliceOf.new _ .none .none vs) ps ?_ (by rw [List.size_toArray]; omega)
    refine ⟨.ref _, _, I5.laid (t' := s4.toks) (o := .tup xs.reverse) (fun b ob q => Heap.get?_push_of_some _ q) (Nat.le_refl _) ?_, rfl, q _ (I5.hok.fresh (Nat.le_refl _))⟩
    exact ⟨by rw [List.length_reverse]; exact hz, _, r.reverse, IsTup.new _ _⟩
end Sg
end

section
set_option Elab.async false
set_option linter.all false
set_option maxRecDepth 100000
set_option maxHeartbeats 1000000
/-! Sg, part 3: the operators and built-ins by values. -/
namespace Sg
open PySem PySem.Spec PyProof.Rows L2

/-- an answer of the evaluator is what is wanted -/
def Sat {α β : Type} (K : PySem.W.Frag) (rel : Ws → β → α → Prop) (xw : Ws → String → List Vl → Mm → Prop) (T : Ws) (r : R α) (Q : β → Hp → Prop) : Prop :=
  match r with
  | .ok w M => ∀ v T', Ext T T' → RelM K T' M → rel T' v w → Q v T'.H
  | .exc c ws M => xw T c ws M
  | .bad => False
def noX : Ws → String → List Vl → Mm → Prop := fun _ _ _ _ => False
abbrev SatV (K : PySem.W.Frag) := Sat K (IsV K) noX
/-- from where one is: nothing more happens -/
theorem Sat.here {α β : Type} {K : PySem.W.Frag} {rel : Ws → β → α → Prop} {xw : Ws → String → List Vl → Mm → Prop} {T : Ws} {w : α} {M : Mm} {Q : β → Hp → Prop} (h : Sat K rel xw T (.ok w M) Q) {v : β} (rm : RelM K T M) (r : rel T v w) : Q v T.H :=
  h v T (Ext.refl T) rm r
def R2of (K : PySem.W.Frag) (f : Vl → Vl → Mm → R Vl) : R2 := fun x y H Q => ∃ T w1 w2 M, T.H = H ∧ RelM K T M ∧ IsV K T x w1 ∧ IsV K T y w2 ∧ SatV K T (f w1 w2 M) Q

section
variable {K : PySem.W.Frag} {T : Ws} {M : Mm} {v : V} {w : Vl}
/-! ### what an rd tells -/
theorem rd_cases (rm : RelM K T M) (h : IsV K T v w) : (∃ a n l xs, w = .ref n ∧ v = .ref a ∧ T.as[n]? = some a ∧ rd M w = .lst l ∧ T.H a = some (.lst xs) ∧ IsVs K T xs l) ∨
    (rd M w = w ∧ ∀ n l, w = .ref n → M[n]? ≠ some (.lst l)) := by
  cases w with
  | ref n =>
    cases h with
    | @ref a _ ha =>
      cases q : M[n]? with
      | none => exact .inr ⟨by simp [rd, q], fun n' l' e z => by cases e; rw [q] at z; cases z⟩
      | some c =>
        cases c with
        | lst l =>
          left
          obtain ⟨b, hb, _, xs, h1, h2⟩ := rm.get q
          rw [ha] at hb
          cases hb
          exact ⟨a, n, l, xs, rfl, rfl, ha, by simp [rd, q], h1, h2⟩
        | dct l => exact .inr ⟨by simp [rd, q], fun n' l' e z => by cases e; rw [q] at z; cases z⟩
        | ins c l => exact .inr ⟨by simp [rd, q], fun n' l' e z => by cases e; rw [q] at z; cases z⟩
  | _ => right; exact ⟨rfl, fun n l e => nomatch e⟩
theorem rd_lst {l : List Vl} (rm : RelM K T M) (h : IsV K T v w) (e : rd M w = .lst l) : ∃ a xs, v = .ref a ∧ T.H a = some (.lst xs) ∧ IsVs K T xs l := by
  rcases rd_cases rm h with ⟨a, n, l', xs, _, rfl, _, e', h1, h2⟩ | ⟨e', _⟩
  · rw [e] at e'; cases e'
    exact ⟨a, xs, rfl, h1, h2⟩
  · rw [e] at e'
    rw [← e'] at h
    cases h with
    | lst hz hs => exact ⟨_, _, rfl, hz.1, hs⟩
theorem rd_tup {l : List Vl} (rm : RelM K T M) (h : IsV K T v w) (e : rd M w = .tup l) : ∃ a xs, v = .ref a ∧ FzT K T a xs ∧ IsVs K T xs l ∧ w = .tup l := by
  rcases rd_cases rm h with ⟨a, n, l', xs, _, rfl, _, e', h1, h2⟩ | ⟨e', _⟩
  · rw [e] at e'; cases e'
  · rw [e] at e'
    rw [← e'] at h
    cases h with
    | tup hz hs => exact ⟨_, _, rfl, hz, hs, e'.symm⟩
theorem rd_same {w' : Vl} (rm : RelM K T M) (h : IsV K T v w) (e : rd M w = w') (n : ∀ l, w' ≠ .lst l) : w = w' := by
  rcases rd_cases rm h with ⟨a, k, l', xs, _, rfl, _, e', h1, h2⟩ | ⟨e', _⟩
  · exact absurd (e.symm.trans e') (n l')
  · exact e'.symm.trans e
theorem rd_int {i : Int} (rm : RelM K T M) (h : IsV K T v w) (e : rd M w = .int i) : v = .int i := by
  have := rd_same rm h e (fun l q => nomatch q)
  subst this
  cases h; rfl
theorem rd_str {i : Str} (rm : RelM K T M) (h : IsV K T v w) (e : rd M w = .str i) : v = .str i := by
  have := rd_same rm h e (fun l q => nomatch q)
  subst this
  cases h; rfl
theorem rd_bl {i : Bool} (rm : RelM K T M) (h : IsV K T v w) (e : rd M w = .bl i) : v = .bl i := by
  have := rd_same rm h e (fun l q => nomatch q)
  subst this
  cases h; rfl
theorem rd_non (rm : RelM K T M) (h : IsV K T v w) (e : rd M w = .non) : v = .non := by
  have := rd_same rm h e (fun l q => nomatch q)
  subst this
  cases h; rfl
theorem rd_scr {l : List Vl} (rm : RelM K T M) (h : IsV K T v w) (e : rd M w = .scr l) : ∃ a xs, v = .ref a ∧ FzS K T a xs ∧ IsVs K T xs l := by
  have := rd_same rm h e (fun l q => nomatch q)
  subst this
  cases h with
  | scr hz hs => exact ⟨_, _, rfl, hz, hs⟩
/-- a row of items -/
theorem seq_is {l : List Vl} (rm : RelM K T M) (h : IsV K T v w) (e : seq M w = some l) : ∃ a xs, v = .ref a ∧ (SqL K T.H a xs ∨ FzT K T a xs) ∧ IsVs K T xs l ∧ (rd M w = .lst l ∨ rd M w = .tup l) := by
  unfold seq at e
  split at e
  · rename_i l' q
    cases e
    obtain ⟨a, xs, h1, h2, h3, _⟩ := rd_tup rm h q
    exact ⟨a, xs, h1, .inr h2, h3, .inr q⟩
  · rename_i l' q
    cases e
    obtain ⟨a, xs, h1, h2, h3⟩ := rd_lst rm h q
    exact ⟨a, xs, h1, .inl (SqL.of h2), h3, .inl q⟩
  · cases e
theorem seqLst_is {l : List Vl} (rm : RelM K T M) (h : IsV K T v w) (e : seqLst M w = some l) : ∃ a xs, v = .ref a ∧ T.H a = some (.lst xs) ∧ IsVs K T xs l ∧ rd M w = .lst l := by
  unfold seqLst at e
  split at e
  · rename_i l' q
    cases e
    obtain ⟨a, xs, h1, h2, h3⟩ := rd_lst rm h q
    exact ⟨a, xs, h1, h2, h3, q⟩
  · cases e

/-! ### data -/
mutual
theorem pure_lay : ∀ {w : Vl}, pureV w = true → (toD w).canLay0 = true
  | .non, _ => rfl
  | .bl _, _ => rfl
  | .int _, _ => rfl
  | .str s, h => by simpa [toD, PyData.canLay0, pureV] using h
  | .tup l, h => by
    simp only [toD, PyData.canLay0]
    exact pureL_lay (by simpa [pureV] using h)
  | .lst l, h => by
    simp only [toD, PyData.canLay0]
    exact pureL_lay (by simpa [pureV] using h)
  | .ref _, h => by simp [pureV] at h
  | .xc _ _, h => by simp [pureV] at h
  | .scr _, h => by simp [pureV] at h
  | .dic, h => by simp [pureV] at h
theorem pureL_lay : ∀ {l : List Vl}, pureL l = true → PyData.canLayAll0 (toDL l) = true
  | [], _ => rfl
  | x :: r, h => by
    have q : pureV x = true ∧ pureL r = true := by simpa [pureL] using h
    simp only [toDL, PyData.canLayAll0, pure_lay q.1, pureL_lay q.2, Bool.and_self]
end
mutual
theorem dep_toD : ∀ w : Vl, (toD w).depth = dep w
  | .non | .bl _ | .int _ | .str _ | .ref _ | .xc _ _ | .scr _ => by simp [toD, PyData.depth, dep]
  | .dic => by simp [toD, PyData.depth, PyData.depthKv, dep]
  | .tup l => by simp only [toD, PyData.depth, dep, depL_toD l]
  | .lst l => by simp only [toD, PyData.depth, dep, depL_toD l]
theorem depL_toD : ∀ l : List Vl, PyData.depthAll (toDL l) = depL l
  | [] => rfl
  | x :: r => by simp only [toDL, PyData.depthAll, depL, dep_toD x, depL_toD r]
end
theorem beq_dec {α : Type} [DecidableEq α] (a b : α) : (a == b) = decide (a = b) := rfl
mutual
theorem eqV_toD : ∀ {x y : Vl}, pureV x = true → pureV y = true → PyData.eqv (toD x) (toD y) = eqV x y
  | .non, y, _, hy => by cases y <;> first | rfl | (simp [pureV] at hy)
  | .bl a, y, _, hy => by
    cases y with
    | int j => simp only [toD, PyData.eqv, eqV]; rfl
    | _ => first | rfl | (simp [pureV] at hy)
  | .int a, y, _, hy => by
    cases y with
    | bl j => simp only [toD, PyData.eqv, eqV]; rfl
    | int j => simp only [toD, PyData.eqv, eqV]; rfl
    | _ => first | rfl | (simp [pureV] at hy)
  | .str a, y, _, hy => by
    cases y with
    | str b =>
      simp only [toD, PyData.eqv, eqV]
      by_cases e : a = b
      · subst e; simp
      · rw [decide_eq_false e]; exact beq_eq_false_iff_ne.mpr e
    | _ => first | rfl | (simp [pureV] at hy)
  | .tup l, y, hx, hy => by
    cases y with
    | tup m =>
      simp only [toD, PyData.eqv, eqV]
      exact eqL_toD (by simpa [pureV] using hx) (by simpa [pureV] using hy)
    | _ => first | rfl | (simp [pureV] at hy)
  | .lst l, y, hx, hy => by
    cases y with
    | lst m =>
      simp only [toD, PyData.eqv, eqV]
      exact eqL_toD (by simpa [pureV] using hx) (by simpa [pureV] using hy)
    | _ => first | rfl | (simp [pureV] at hy)
  | .ref _, _, h, _ => by simp [pureV] at h
  | .xc _ _, _, h, _ => by simp [pureV] at h
  | .scr _, _, h, _ => by simp [pureV] at h
  | .dic, _, h, _ => by simp [pureV] at h
theorem eqL_toD : ∀ {x y : List Vl}, pureL x = true → pureL y = true → PyData.eqvAll (toDL x) (toDL y) = eqL x y
  | [], [], _, _ => rfl
  | [], _ :: _, _, _ => rfl
  | _ :: _, [], _, _ => rfl
  | x :: r, y :: s, hx, hy => by
    have q : pureV x = true ∧ pureL r = true := by simpa [pureL] using hx
    have q' : pureV y = true ∧ pureL s = true := by simpa [pureL] using hy
    simp only [toDL, PyData.eqvAll, eqL, eqV_toD q.1 q'.1, eqL_toD q.2 q'.2]
end
mutual
theorem isV_dp : ∀ {w : Vl} {v : V}, IsV K T v w → pureV w = true → Dp K T.H v (toD w)
  | .non, _, h, _ => by cases h; exact .non
  | .bl b, _, h, _ => by cases h; exact .bl b
  | .int b, _, h, _ => by cases h; exact .int b
  | .str b, _, h, _ => by cases h; exact .str b
  | .tup l, _, h, p => by
    cases h with
    | tup hz hs => exact .tup hz.sq (isVs_dp hs (by simpa [pureV] using p))
  | .lst l, _, h, p => by
    cases h with
    | lst hz hs => exact .lst hz.sq (isVs_dp hs (by simpa [pureV] using p))
  | .ref _, _, _, p => by simp [pureV] at p
  | .xc _ _, _, _, p => by simp [pureV] at p
  | .scr _, _, _, p => by simp [pureV] at p
  | .dic, _, _, p => by simp [pureV] at p
theorem isVs_dp : ∀ {w : List Vl} {v : List V}, IsVs K T v w → pureL w = true → DpAll K T.H v (toDL w)
  | [], _, h, _ => by cases h; exact .nil
  | x :: r, _, h, p => by
    have q : pureV x = true ∧ pureL r = true := by simpa [pureL] using p
    cases h with
    | cons h1 h2 => exact .cons (isV_dp h1 q.1) (isVs_dp h2 q.2)
end
theorem rd_dp (rm : RelM K T M) (h : IsV K T v w) (p : pureV (rd M w) = true) : Dp K T.H v (toD (rd M w)) := by
  rcases rd_cases rm h with ⟨a, n, l, xs, _, rfl, _, e', h1, h2⟩ | ⟨e', _⟩
  · rw [e'] at p ⊢
    exact .lst (SqL.of h1) (isVs_dp h2 (by simpa [pureV] using p))
  · rw [e'] at p ⊢
    exact isV_dp h p
end

section
variable {X : Cx}
/-- == of data -/
theorem op_eqW (hu : X.A.units + 200 < cLine) : OpR X (compareOp .Eq) (R2of X.K fun a b M => R.of ((eqR M a b).map .bl) M) := by
  intro pins s σ H x y v u Q I rx ry h
  obtain ⟨T, w1, w2, M, rfl, rm, i1, i2, hs⟩ := h
  unfold eqR at hs
  dsimp only at hs
  split at hs
  · rename_i c
    obtain ⟨p1, p2, hd⟩ := c
    obtain ⟨as, r1⟩ := Dp.reads I _ x v (rd_dp rm i1 p1) rx
    obtain ⟨bs, r2⟩ := Dp.reads I _ y u (rd_dp rm i2 p2) ry
    refine SeqAt.compareEq_reads r1 r2 (pure_lay p1) (pure_lay p2) (by rw [dep_toD, dep_toD]; unfold depLine at hd; omega) ?_
    rw [eqV_toD p1 p2]
    exact ⟨.bl _, T.H, I, rfl, hs.here rm (.bl _)⟩
  · exact hs.elim
theorem op_neW (hu : X.A.units + 200 < cLine) : OpR X (compareOp .NotEq) (R2of X.K fun a b M => R.of (((eqR M a b).map not).map .bl) M) := by
  intro pins s σ H x y v u Q I rx ry h
  obtain ⟨T, w1, w2, M, rfl, rm, i1, i2, hs⟩ := h
  unfold eqR at hs
  dsimp only at hs
  split at hs
  · rename_i c
    obtain ⟨p1, p2, hd⟩ := c
    obtain ⟨as, r1⟩ := Dp.reads I _ x v (rd_dp rm i1 p1) rx
    obtain ⟨bs, r2⟩ := Dp.reads I _ y u (rd_dp rm i2 p2) ry
    refine SeqAt.compareNe_reads r1 r2 (pure_lay p1) (pure_lay p2) (by rw [dep_toD, dep_toD]; unfold depLine at hd; omega) ?_
    rw [eqV_toD p1 p2]
    exact ⟨.bl _, T.H, I, rfl, hs.here rm (.bl _)⟩
  · exact hs.elim
theorem any_toD {l : List Vl} {x : Vl} (hl : pureL l = true) (hx : pureV x = true) : (toDL l).any (fun y => PyData.eqv y (toD x)) = l.any fun y => eqV y x := by
  induction l with
  | nil => rfl
  | cons y r ih =>
    have q : pureV y = true ∧ pureL r = true := by simpa [pureL] using hl
    simp only [toDL, List.any_cons, ih q.2, eqV_toD q.1 hx]
/-- in, over lists and tuples of data -/
theorem in_core {pins : List (Addr × Obj)} {s : Shared} {σ : L2.St} {x y : V} {v u : Value} {T : Ws} {w1 w2 : Vl} {M : Mm} {l : List Vl} (hu : X.A.units + 200 < cLine) (I : Inv X pins σ T.H s) (rx : RelV x v) (ry : RelV y u) (rm : RelM X.K T M) (i1 : IsV X.K T x w1) (i2 : IsV X.K T y w2)
    (e : seq M w2 = some l) (p1 : pureV (rd M w1) = true) (p2 : pureL l = true) (hd : min (depL l) (dep (rd M w1)) ≤ depLine) :
    (∀ (E : Value → Shared → Prop) (Q : Value → Shared → Prop), Q (.bool (l.any fun y => eqV y (rd M w1))) s → wpAny (model X.prog X.w) X.A (compareOp .In v u) Q E s) ∧
    (∀ (E : Value → Shared → Prop) (Q : Value → Shared → Prop), Q (.bool (!l.any fun y => eqV y (rd M w1))) s → wpAny (model X.prog X.w) X.A (compareOp .NotIn v u) Q E s) := by
  obtain ⟨a, xs, rfl, hq, hs, hr⟩ := seq_is rm i2 e
  obtain ⟨as, r1⟩ := Dp.reads I _ x v (rd_dp rm i1 p1) rx
  have room : X.A.units + 1 + min (PyData.depthAll (toDL l)) (toD (rd M w1)).depth < cLine := by
    rw [depL_toD, dep_toD]
    unfold depLine at hd
    omega
  cases hr with
  | inl hr =>
    obtain ⟨bs, r2⟩ := Dp.reads I (.list (toDL l)) (.ref a) u (by
      have := rd_dp rm i2 (by rw [hr]; simpa [pureV] using p2)
      rw [hr] at this
      exact this) ry
    refine ⟨fun E Q h => SeqAt.in_list_reads r2 r1 (pureL_lay p2) (pure_lay p1) room (by rw [any_toD p2 p1]; exact h), fun E Q h => SeqAt.notIn_list_reads r2 r1 (pureL_lay p2) (pure_lay p1) room (by rw [any_toD p2 p1]; exact h)⟩
  | inr hr =>
    obtain ⟨bs, r2⟩ := Dp.reads I (.tuple (toDL l)) (.ref a) u (by
      have := rd_dp rm i2 (by rw [hr]; simpa [pureV] using p2)
      rw [hr] at this
      exact this) ry
    refine ⟨fun E Q h => SeqAt.in_tuple_reads r2 r1 (pureL_lay p2) (pure_lay p1) room (by rw [any_toD p2 p1]; exact h), fun E Q h => SeqAt.notIn_tuple_reads r2 r1 (pureL_lay p2) (pure_lay p1) room (by rw [any_toD p2 p1]; exact h)⟩
theorem op_inW (hu : X.A.units + 200 < cLine) : OpR X (compareOp .In) (R2of X.K fun a b M => R.of (((seq M b).bind fun l => inR M a l).map .bl) M) := by
  intro pins s σ H x y v u Q I rx ry h
  obtain ⟨T, w1, w2, M, rfl, rm, i1, i2, hs⟩ := h
  dsimp only at hs
  cases e : seq M w2 with
  | none => rw [e] at hs; exact hs.elim
  | some l =>
    rw [e] at hs
    simp only [Option.bind_some, inR] at hs
    split at hs
    · rename_i c
      obtain ⟨p1, p2, hd⟩ := c
      exact (in_core hu I rx ry rm i1 i2 e p1 p2 hd).1 _ _ ⟨.bl _, T.H, I, rfl, hs.here rm (.bl _)⟩
    · exact hs.elim
theorem op_ninW (hu : X.A.units + 200 < cLine) : OpR X (compareOp .NotIn) (R2of X.K fun a b M => R.of ((((seq M b).bind fun l => inR M a l).map not).map .bl) M) := by
  intro pins s σ H x y v u Q I rx ry h
  obtain ⟨T, w1, w2, M, rfl, rm, i1, i2, hs⟩ := h
  dsimp only at hs
  cases e : seq M w2 with
  | none => rw [e] at hs; exact hs.elim
  | some l =>
    rw [e] at hs
    simp only [Option.bind_some, inR] at hs
    split at hs
    · rename_i c
      obtain ⟨p1, p2, hd⟩ := c
      exact (in_core hu I rx ry rm i1 i2 e p1 p2 hd).2 _ _ ⟨.bl _, T.H, I, rfl, hs.here rm (.bl _)⟩
    · exact hs.elim
/-- the orders of ints -/
theorem op_ordW {f : Int → Int → Bool} {op : CmpOp} (ho : OpR X (compareOp op) (rI0 fun i j => .bl (f i j))) : OpR X (compareOp op) (R2of X.K fun a b M => R.of ((ordV f a b).map .bl) M) := by
  intro pins s σ H x y v u Q I rx ry h
  obtain ⟨T, w1, w2, M, rfl, rm, i1, i2, hs⟩ := h
  unfold ordV at hs
  dsimp only at hs
  split at hs
  · cases i1
    cases i2
    exact ho pins s σ T.H _ _ v u Q I rx ry ⟨_, _, rfl, rfl, hs.here rm (.bl _)⟩
  · exact hs.elim
theorem op_addW {fz : Bool} : OpR X (binaryOp .Add) (R2of X.K (bin2 .add fz)) := by
  intro pins s σ H x y v u Q I rx ry h
  obtain ⟨T, w1, w2, M, rfl, rm, i1, i2, hs⟩ := h
  simp only [bin2, addV] at hs
  split at hs
  · rename_i i j e1 e2
    have := rd_int rm i1 e1
    subst this
    have := rd_int rm i2 e2
    subst this
    exact op_add pins s σ T.H _ _ v u Q I rx ry ⟨_, _, rfl, rfl, hs.here rm (.int _)⟩
  · rename_i i j e1 e2
    have := rd_str rm i1 e1
    subst this
    have := rd_str rm i2 e2
    subst this
    split at hs
    · rename_i hz
      exact op_add_str pins s σ T.H _ _ v u Q I rx ry ⟨_, _, rfl, rfl, hz, hs.here rm (.str _)⟩
    · exact hs.elim
  · rename_i l m e1 e2
    obtain ⟨a, xs, rfl, hz, hx, _⟩ := rd_tup rm i1 e1
    obtain ⟨b, ys, rfl, hz2, hy, _⟩ := rd_tup rm i2 e2
    split at hs
    · rename_i hl
      refine op_catA pins s σ T.H _ _ v u Q I rx ry ⟨a, b, xs, ys, rfl, rfl, hz.sq, hz2.sq, by rw [hx.length, hy.length]; exact hl, fun e => ?_, fun _ e => ?_, fun _ _ p hp => ?_⟩
      · subst e
        have : l = [] := by cases hx; rfl
        subst this
        exact hs.here rm (.tup hz2 hy)
      · subst e
        have : m = [] := by cases hy; rfl
        subst this
        rw [List.append_nil] at hs
        exact hs.here rm (.tup hz hx)
      · obtain ⟨e, rm', np⟩ := fresh_fz rm hp (.tup (xs ++ ys))
        exact hs (.ref p) _ e rm' (.tup (.inl ⟨.inl upd_same, np⟩) ((hx.append hy).ext e))
    · exact hs.elim
  · rename_i l m e1 e2
    obtain ⟨a, xs, rfl, hz, hx⟩ := rd_lst rm i1 e1
    obtain ⟨b, ys, rfl, hz2, hy⟩ := rd_lst rm i2 e2
    split at hs
    · rename_i hl
      refine op_cat pins s σ T.H _ _ v u Q I rx ry ⟨a, b, xs, ys, rfl, rfl, hz, hz2, by rw [hx.length, hy.length]; exact hl, fun p hp => ?_⟩
      obtain ⟨w', M', T', q1, q2, q3, q4, q5⟩ := mkL_ok (fz := fz) rm (hx.append hy) hp
      rw [q1] at hs
      rw [← q2]
      exact hs _ T' q3 q4 q5
    · exact hs.elim
  · exact hs.elim
theorem op_subW {fz : Bool} : OpR X (binaryOp .Sub) (R2of X.K (bin2 .sub fz)) := by
  intro pins s σ H x y v u Q I rx ry h
  obtain ⟨T, w1, w2, M, rfl, rm, i1, i2, hs⟩ := h
  simp only [bin2] at hs
  split at hs
  · cases i1
    cases i2
    exact op_sub pins s σ T.H _ _ v u Q I rx ry ⟨_, _, rfl, rfl, hs.here rm (.int _)⟩
  · exact hs.elim
theorem op_mulW' {fz : Bool} : OpR X (binaryOp .Mult) (R2of X.K (bin2 .mul fz)) := by
  intro pins s σ H x y v u Q I rx ry h
  obtain ⟨T, w1, w2, M, rfl, rm, i1, i2, hs⟩ := h
  simp only [bin2, mulV] at hs
  split at hs
  · rename_i i j e1 e2
    have := rd_int rm i1 e1
    subst this
    have := rd_int rm i2 e2
    subst this
    split at hs
    · rename_i hc
      exact op_mul pins s σ T.H _ _ v u Q I rx ry ⟨_, _, rfl, rfl, hc, hs.here rm (.int _)⟩
    · exact hs.elim
  · rename_i l k e1 e2
    obtain ⟨a, xs, rfl, hz, hx⟩ := rd_lst rm i1 e1
    have := rd_int rm i2 e2
    subst this
    split at hs
    · rename_i hl
      refine op_rep pins s σ T.H _ _ v u Q I rx ry ⟨a, k, xs, rfl, rfl, hz, hl.1, hl.2.1, by rw [hx.length]; exact hl.2.2, fun p hp => ?_⟩
      obtain ⟨w', M', T', q1, q2, q3, q4, q5⟩ := mkL_ok (fz := fz) rm (hx.rep k.toNat) hp
      rw [q1] at hs
      rw [← q2]
      exact hs _ T' q3 q4 q5
    · exact hs.elim
  · rename_i l k e1 e2
    obtain ⟨a, xs, rfl, hz, hx, hw⟩ := rd_tup rm i1 e1
    have := rd_int rm i2 e2
    subst this
    split at hs
    · rename_i hl
      rcases hl with ⟨h0, h1, h2⟩ | ⟨h0, h1, h2, h3⟩
      · subst h0
        cases hx
        refine op_rep0 pins s σ T.H _ _ v u Q I rx ry ⟨a, k, rfl, rfl, hz.sq, h1, h2, ?_⟩
        have e : (List.replicate k.toNat ([] : List Vl)).flatten = [] := by simp
        rw [e] at hs
        exact hs.here rm (.tup hz .nil)
      · refine op_repT pins s σ T.H _ _ v u Q I rx ry ⟨a, k, xs, rfl, rfl, hz.sq, fun q => ?_, h1, h2, by rw [hx.length]; exact h3, fun p hp => ?_⟩
        · subst q
          cases hx
          exact h0 rfl
        · obtain ⟨e, rm', np⟩ := fresh_fz rm hp (.tup (List.replicate k.toNat xs).flatten)
          exact hs (.ref p) _ e rm' (.tup (.inl ⟨.inl upd_same, np⟩) ((hx.rep k.toNat).ext e))
    · exact hs.elim
  · exact hs.elim
theorem op_fdivW' {fz : Bool} : OpR X (binaryOp .FloorDiv) (R2of X.K (bin2 .fdiv fz)) := by
  intro pins s σ H x y v u Q I rx ry h
  obtain ⟨T, w1, w2, M, rfl, rm, i1, i2, hs⟩ := h
  simp only [bin2] at hs
  split at hs
  · cases i1
    cases i2
    split at hs
    · rename_i hc
      exact op_fdiv pins s σ T.H _ _ v u Q I rx ry ⟨_, _, rfl, rfl, hc, hs.here rm (.int _)⟩
    · exact hs.elim
  · exact hs.elim
theorem op_modW {fz : Bool} : OpR X (binaryOp .Mod) (R2of X.K (bin2 .mod fz)) := by
  intro pins s σ H x y v u Q I rx ry h
  obtain ⟨T, w1, w2, M, rfl, rm, i1, i2, hs⟩ := h
  simp only [bin2] at hs
  split at hs
  · cases i1
    cases i2
    split at hs
    · rename_i hc
      exact op_mod pins s σ T.H _ _ v u Q I rx ry ⟨_, _, rfl, rfl, hc, hs.here rm (.int _)⟩
    · exact hs.elim
  · exact hs.elim
theorem op_powW {fz : Bool} : OpR X (binaryOp .Pow) (R2of X.K (bin2 .pow fz)) := by
  intro pins s σ H x y v u Q I rx ry h
  obtain ⟨T, w1, w2, M, rfl, rm, i1, i2, hs⟩ := h
  simp only [bin2] at hs
  split at hs
  · cases i1
    cases i2
    split at hs
    · rename_i hc
      exact op_pow pins s σ T.H _ _ v u Q I rx ry ⟨_, _, rfl, rfl, hc, hs.here rm (.int _)⟩
    · exact hs.elim
  · exact hs.elim
end
end Sg
end

section
set_option Elab.async false
set_option linter.all false
set_option maxRecDepth 100000
set_option maxHeartbeats 1000000
/-! Sg, part 3b: texts of values in which an empty dict stands. -/
namespace Sg
open PySem PySem.Spec PyProof.Rows L2
/-! ### how such a value reads -/
mutual
inductive RdS (h : Heap) : Value → PyData → Prop
  | none : RdS h .none .none
  | bool (b : Bool) : RdS h (.bool b) (.bool b)
  | int (i : Int) (t : Tok) : RdS h (.int i t) (.int i)
  | str (x : Str) (t : Tok) : RdS h (.str x t) (.str x)
  | list {a : Addr} {o : Obj} {vs : Array Value} {n : Nat} {ds : List PyData} : h.get? a = some o → o.cls = .type "list" → o.data = .seq vs n → RdA h vs.toList ds → RdS h (.ref a) (.list ds)
  | tuple {a : Addr} {o : Obj} {vs : Array Value} {n : Nat} {ds : List PyData} : h.get? a = some o → o.cls = .type "tuple" → o.data = .seq vs n → RdA h vs.toList ds → RdS h (.ref a) (.tuple ds)
  | dic {a : Addr} {o : Obj} {n : Nat} : h.get? a = some o → o.cls = .type "dict" → o.data = .dict #[] n → (a == sysModules) = false → RdS h (.ref a) (.dict [])
inductive RdA (h : Heap) : List Value → List PyData → Prop
  | nil : RdA h [] []
  | cons {v : Value} {vs : List Value} {d : PyData} {ds : List PyData} : RdS h v d → RdA h vs ds → RdA h (v :: vs) (d :: ds)
end
section
variable {h : Heap}
mutual
theorem RdS.reads : ∀ {v : Value} {d : PyData}, RdS h v d → ∃ as, Reads h v d as
  | _, _, .none => ⟨_, .none⟩
  | _, _, .bool b => ⟨_, .bool b⟩
  | _, _, .int i t => ⟨_, .int i t⟩
  | _, _, .str x t => ⟨_, .str x t⟩
  | _, _, .list a b c r => let ⟨_, q⟩ := RdA.reads r; ⟨_, .list a b c q⟩
  | _, _, .tuple a b c r => let ⟨_, q⟩ := RdA.reads r; ⟨_, .tuple a b c q⟩
  | _, _, .dic a b c _ => ⟨_, .dict (kvs := []) a b c .nil .nil⟩
theorem RdA.reads : ∀ {vs : List Value} {ds : List PyData}, RdA h vs ds → ∃ as, ReadsAll h vs ds as
  | _, _, .nil => ⟨_, .nil⟩
  | _, _, .cons r s => let ⟨_, q⟩ := RdS.reads r; let ⟨_, q'⟩ := RdA.reads s; ⟨_, .cons q q'⟩
end
variable {P : Program} {w : World}
theorem dict_nil : PyData.shown (.dict []) = PySem.dictText [] := by simp only [PyData.shown, PyData.shownKv]
mutual
theorem RdS.text : ∀ {v : Value} {d : PyData}, RdS h v d → d.showable = true → d.shown.length ≤ sizeLine → ∃ bs, ReadAtMost h d.depth bs ∧ ReprK P w bs h d.depth v d.shown
  | _, _, .none, _, _ => ⟨[], (fun _ z => nomatch z), .of_is ReprIs.none _ _ _⟩
  | _, _, .bool b, _, _ => ⟨[], (fun _ z => nomatch z), .of_is (ReprIs.bool b) _ _ _⟩
  | _, _, .int i t, hs, _ => ⟨[], (fun _ z => nomatch z), .of_is (ReprIs.int t (by simpa [PyData.showable] using hs)) _ _ _⟩
  | _, _, .str x t, _, hz => by
    have hz : (PySem.reprText x).length ≤ sizeLine := by simpa only [PyData.shown] using hz
    exact ⟨[], (fun _ z => nomatch z), by simp only [PyData.shown]; exact .of_is (ReprIs.str x t hz) _ _ _⟩
  | _, _, .list (a := a) (vs := vs) (ds := ds) q1 q2 q3 q4, hs, hz => by
    have hz1 : (listText (PyData.shownAll ds)).length ≤ sizeLine := by simpa only [PyData.shown] using hz
    have hs1 : PyData.showableAll ds = true := by simpa [PyData.showable] using hs
    obtain ⟨bs, m, k⟩ := RdA.text q4 hs1 fun t ht => Nat.le_trans (listText_mem_le ht) hz1
    obtain ⟨as, r⟩ := RdS.reads (.list q1 q2 q3 q4)
    have out : a ∉ bs := not_mem_of_deeper r (Nat.lt_succ_self _) m
    refine ⟨a :: bs, ReadAtMost.cons r (Nat.le_succ _) m, ?_⟩
    simp only [PyData.shown, PyData.depth]
    obtain ⟨l⟩ := vs
    match l, k, q3, q4 with
    | [], _, q3, q4 =>
      have e : ds = [] := by cases (q4 : RdA h [] ds); rfl
      rw [e]
      simp only [PyData.shownAll, listText_nil]
      exact .listEmpty q1 q2 q3
    | x :: l, k, q3, _ => exact .list q1 q2 q3 out (by have := k.length_eq; simpa using this) fun i y e => k.item i y (by simpa using e)
  | _, _, .tuple (a := a) (ds := ds) q1 q2 q3 q4, hs, hz => by
    have hz1 : (tupleText (PyData.shownAll ds)).length ≤ sizeLine := by simpa only [PyData.shown] using hz
    have hs1 : PyData.showableAll ds = true := by simpa [PyData.showable] using hs
    obtain ⟨bs, m, k⟩ := RdA.text q4 hs1 fun t ht => Nat.le_trans (tupleText_mem_le ht) hz1
    obtain ⟨as, r⟩ := RdS.reads (.tuple q1 q2 q3 q4)
    refine ⟨a :: bs, ReadAtMost.cons r (Nat.le_succ _) m, ?_⟩
    simp only [PyData.shown, PyData.depth]
    exact .tuple q1 q2 q3 (not_mem_of_deeper r (Nat.lt_succ_self _) m) k
  | _, _, .dic (a := a) q1 q2 q3 q4, _, _ => by
    obtain ⟨as, r⟩ := RdS.reads (.dic q1 q2 q3 q4)
    have m : ReadAtMost h 0 [] := fun _ z => nomatch z
    refine ⟨[a], ReadAtMost.cons r (Nat.zero_le _) m, ?_⟩
    rw [dict_nil]
    exact .dict (as := []) (d := 0) q1 q2 q3 q4 (fun z => nomatch z) .nil
theorem RdA.text : ∀ {vs : List Value} {ds : List PyData}, RdA h vs ds → PyData.showableAll ds = true → (∀ t ∈ PyData.shownAll ds, t.length ≤ sizeLine) → ∃ bs, ReadAtMost h (PyData.depthAll ds) bs ∧ ReprAllK P w bs h (PyData.depthAll ds) vs (PyData.shownAll ds)
  | _, _, .nil, _, _ => ⟨[], (fun _ z => nomatch z), .nil⟩
  | _, _, .cons (d := d) (ds := ds) r s, hs, hz => by
    have hs1 : d.showable = true ∧ PyData.showableAll ds = true := by simpa [PyData.showableAll] using hs
    simp only [PyData.shownAll, List.mem_cons, forall_eq_or_imp] at hz
    obtain ⟨b1, m1, k1⟩ := RdS.text r hs1.1 hz.1
    obtain ⟨b2, m2, k2⟩ := RdA.text s hs1.2 hz.2
    have le1 : d.depth ≤ PyData.depthAll (d :: ds) := Nat.le_max_left _ _
    have le2 : PyData.depthAll ds ≤ PyData.depthAll (d :: ds) := Nat.le_max_right _ _
    refine ⟨b1 ++ b2, (m1.mono le1).append (m2.mono le2), ?_⟩
    simp only [PyData.shownAll]
    exact .cons ((k1.more fun b hb => List.mem_append_left b2 hb).level_le le1) (k2.more_le (fun b hb => List.mem_append_right b1 hb) le2)
end
end
/-- repr of what stands on the heap -/
theorem repr_RS {P : Program} {w : World} {A : Around} {E : Value → Shared → Prop} {s : Shared} {Q : Value → Shared → Prop} {a : Addr} {d : PyData} (r : RdS s.heap (.ref a) d) (hs : d.showable = true) (hg : A.guards = some []) (hu : A.units + (d.depth + 1) < cLine)
    (hQ : ∀ h' u tk, (∀ b o, s.heap.get? b = some o → h'.get? b = some o) → Q (.str d.shown u) { s with heap := h', toks := tk }) (hz : d.shown.length ≤ sizeLine) : wpAny (model P w) A (call (.builtin "repr") [.ref a]) Q E s := by
  have hu1 : A.in1.units + d.depth < cLine := by show A.units + 1 + d.depth < cLine; omega
  have hg1 : A.in1.guards = some [] := hg
  obtain ⟨as, rr⟩ := RdS.reads r
  cases r with
  | list q1 q2 q3 q4 =>
    rename_i o vs n ds
    have hz1 : (listText (PyData.shownAll ds)).length ≤ sizeLine := by simpa only [PyData.shown] using hz
    obtain ⟨bs, m, k⟩ := RdA.text (P := P) (w := w) q4 (by simpa [PyData.showable] using hs) fun t ht => Nat.le_trans (listText_mem_le ht) hz1
    have out : a ∉ bs := not_mem_of_deeper rr (Nat.lt_succ_self _) m
    refine call_repr_slot (by omega) ⟨o, q1, q2⟩ F.slot_list_repr.toG ?_
    simp only [PyData.shown] at hQ
    obtain ⟨l⟩ := vs
    match l, k, q3, q4 with
    | [], _, q3, q4 =>
      have e : ds = [] := by cases (q4 : RdA s.heap [] ds); rfl
      subst e
      simp only [PyData.shownAll, listText_nil] at hQ
      exact call_list_repr_empty ⟨o, q1, q2⟩ q1 q3 ⟨_, _, rfl, hQ _ _ _ fun _ _ e => e⟩
    | x :: l, k, q3, _ =>
      exact call_list_reprK q1 q2 q3 out (by have := k.length_eq; simpa using this) (fun i y e => k.item i y (by simpa using e)) hg1 (fun b _ => Clear.nil b) hu1 (fun _ _ e => e) (fun h' u tk hk => ⟨_, _, rfl, hQ h' u tk hk⟩) hz1
  | tuple q1 q2 q3 q4 =>
    rename_i o vs n ds
    have hz1 : (tupleText (PyData.shownAll ds)).length ≤ sizeLine := by simpa only [PyData.shown] using hz
    obtain ⟨bs, m, k⟩ := RdA.text (P := P) (w := w) q4 (by simpa [PyData.showable] using hs) fun t ht => Nat.le_trans (tupleText_mem_le ht) hz1
    refine call_repr_slot (by omega) ⟨o, q1, q2⟩ F.slot_tuple_repr ?_
    simp only [PyData.shown] at hQ
    exact call_tuple_reprK q1 q2 q3 (not_mem_of_deeper rr (Nat.lt_succ_self _) m) k hg1 (fun b _ => Clear.nil b) hu1 (fun _ _ e => e) (fun h' u tk hk => ⟨_, _, rfl, hQ h' u tk hk⟩) hz1
  | dic q1 q2 q3 q4 =>
    refine call_repr_slot (by omega) ⟨_, q1, q2⟩ F.slot_dict_repr ?_
    rw [dict_nil] at hQ hz
    exact call_dict_reprK (as := []) (d := 0) q1 q2 q3 q4 (fun z => nomatch z) .nil hg1 (fun b _ => Clear.nil b) hu1 (fun _ _ e => e) (fun h' u tk hk => ⟨_, _, rfl, hQ h' u tk hk⟩) hz
/-! ### values of the evaluator -/
section
variable {K : PySem.W.Frag} {T : Ws} {M : Mm} {v : V} {w : Vl} {X : Cx} {pins : List (Addr × Obj)} {σ : L2.St} {s : Shared}
mutual
theorem isV_rs (I : Inv X pins σ T.H s) : ∀ {w : Vl} {v : V} {u : Value}, IsV X.K T v w → pureR w = true → RelV v u → RdS s.heap u (toD w)
  | .non, _, _, h, _, r => by cases h; cases r; exact .none
  | .bl b, _, _, h, _, r => by cases h; cases r; exact .bool b
  | .int i, _, _, h, _, r => by cases h; obtain ⟨t, rfl⟩ := r; exact .int i t
  | .str x, _, _, h, _, r => by cases h; obtain ⟨t, rfl⟩ := r; exact .str x t
  | .tup l, _, _, h, p, r => by
    cases h with
    | tup hz hs =>
      cases r
      obtain ⟨its, rv, ⟨o, ho, hc, n, hd⟩, _⟩ := I.tuple hz.sq
      exact .tuple ho hc hd (isVs_rs I hs (by simpa [pureR] using p) rv)
  | .lst l, _, _, h, p, r => by
    cases h with
    | lst hz hs =>
      cases r
      obtain ⟨its, rv, ⟨o, n, ho, hc, _, hd⟩, _⟩ := I.list hz.sq
      exact .list ho hc hd (isVs_rs I hs (by simpa [pureR] using p) rv)
  | .dic, _, _, h, _, r => by
    cases h with
    | dic hz =>
      cases r
      obtain ⟨_, hy, vs, kv, o, es, ep, ho, hx, hd, _, hp, _⟩ := dk_of I.hok hz.1
      cases kv
      cases es with
      | mk l =>
        cases (hp : Pairs _ l [])
        exact .dic ho hx.1 hd hy
  | .ref _, _, _, _, p, _ => by simp [pureR] at p
  | .xc _ _, _, _, _, p, _ => by simp [pureR] at p
  | .scr _, _, _, _, p, _ => by simp [pureR] at p
theorem isVs_rs (I : Inv X pins σ T.H s) : ∀ {l : List Vl} {vs : List V} {us : List Value}, IsVs X.K T vs l → pureRL l = true → Vals vs us → RdA s.heap us (toDL l)
  | [], _, _, h, _, r => by cases h; cases r; exact .nil
  | x :: l, _, _, h, p, r => by
    have q : pureR x = true ∧ pureRL l = true := by simpa [pureRL] using p
    cases h with
    | cons h1 h2 =>
      cases r with
      | cons r1 r2 => exact .cons (isV_rs I h1 q.1 r1) (isVs_rs I h2 q.2 r2)
end
theorem rd_rs {u : Value} (I : Inv X pins σ T.H s) (rm : RelM X.K T M) (h : IsV X.K T v w) (p : pureR (rd M w) = true) (r : RelV v u) : RdS s.heap u (toD (rd M w)) := by
  rcases rd_cases rm h with ⟨a, n, l, xs, _, rfl, _, e', h1, h2⟩ | ⟨e', _⟩
  · rw [e'] at p ⊢
    cases r
    obtain ⟨its, rv, ⟨o, n, ho, hc, _, hd⟩, _⟩ := I.list (SqL.of h1)
    exact .list ho hc hd (isVs_rs I h2 (by simpa [pureR] using p) rv)
  · rw [e'] at p ⊢
    exact isV_rs I h p r
end
end Sg
end

section
set_option Elab.async false
set_option linter.all false
set_option maxRecDepth 100000
set_option maxHeartbeats 1000000
/-! Sg, part 4: built-in functions by values. -/
namespace Sg
open PySem PySem.Spec PyProof.Rows L2

abbrev SatA (K : PySem.W.Frag) := Sat K (IsVs K) noX
def RAof (K : PySem.W.Frag) (f : List Vl → Mm → R Vl) : List V → Hp → VK → Prop := fun xs H Q => ∃ T ws M, T.H = H ∧ RelM K T M ∧ IsVs K T xs ws ∧ SatV K T (f ws M) Q
theorem IsVs.one {K : PySem.W.Frag} {T : Ws} {xs : List V} {w : Vl} (h : IsVs K T xs [w]) : ∃ x, xs = [x] ∧ IsV K T x w := by
  cases h with
  | cons a r => cases r; exact ⟨_, rfl, a⟩
theorem IsVs.two {K : PySem.W.Frag} {T : Ws} {xs : List V} {w w' : Vl} (h : IsVs K T xs [w, w']) : ∃ x y, xs = [x, y] ∧ IsV K T x w ∧ IsV K T y w' := by
  cases h with
  | cons a r =>
    cases r with
    | cons b r => cases r; exact ⟨_, _, rfl, a, b⟩
theorem IsV.int_is {K : PySem.W.Frag} {T : Ws} {x : V} {i : Int} (h : IsV K T x (.int i)) : x = .int i := by cases h; rfl
theorem IsV.bl_is {K : PySem.W.Frag} {T : Ws} {x : V} {i : Bool} (h : IsV K T x (.bl i)) : x = .bl i := by cases h; rfl
theorem IsV.str_is {K : PySem.W.Frag} {T : Ws} {x : V} {i : Str} (h : IsV K T x (.str i)) : x = .str i := by cases h; rfl
theorem IsV.non_is {K : PySem.W.Frag} {T : Ws} {x : V} (h : IsV K T x .non) : x = .non := by cases h; rfl
/-- ints as values -/
theorem intsOf_is {K : PySem.W.Frag} {T : Ws} : ∀ {l : List Vl} {is : List Int} {xs : List V}, intsOf l = some is → IsVs K T xs l → xs = is.map V.int ∧ l = is.map Vl.int
  | [], is, xs, e, h => by
    cases h
    cases e
    exact ⟨rfl, rfl⟩
  | w :: r, is, xs, e, h => by
    cases w with
    | int i =>
      cases h with
      | cons a r' =>
        have ea := a.int_is
        subst ea
        cases q : intsOf r with
        | none => simp [intsOf, q] at e
        | some is' =>
          simp only [intsOf, q, Option.map_some, Option.some.injEq] at e
          subst e
          obtain ⟨h1, h2⟩ := intsOf_is q r'
          exact ⟨by rw [h1]; rfl, by rw [h2]; rfl⟩
    | _ => simp [intsOf] at e
theorem boolsOf_is {K : PySem.W.Frag} {T : Ws} : ∀ {l : List Vl} {is : List Bool} {xs : List V}, boolsOf l = some is → IsVs K T xs l → xs = is.map V.bl
  | [], is, xs, e, h => by
    cases h
    cases e
    rfl
  | w :: r, is, xs, e, h => by
    cases w with
    | bl i =>
      cases h with
      | cons a r' =>
        have ea := a.bl_is
        subst ea
        cases q : boolsOf r with
        | none => simp [boolsOf, q] at e
        | some is' =>
          simp only [boolsOf, q, Option.map_some, Option.some.injEq] at e
          subst e
          rw [boolsOf_is q r']
          rfl
    | _ => simp [boolsOf] at e
theorem maxI_mem : ∀ {l : List Int}, l ≠ [] → maxI l ∈ l ∧ ∀ y ∈ l, y ≤ maxI l
  | [], h => absurd rfl h
  | [a], _ => by simp [maxI]
  | a :: b :: r, _ => by
    obtain ⟨h1, h2⟩ := maxI_mem (l := b :: r) (by simp)
    have e : maxI (a :: b :: r) = max a (maxI (b :: r)) := rfl
    rw [e]
    refine ⟨?_, fun y hy => ?_⟩
    · by_cases q : a ≤ maxI (b :: r)
      · rw [Int.max_eq_right q]; exact List.mem_cons_of_mem _ h1
      · rw [Int.max_eq_left (by omega)]; exact List.mem_cons_self
    · rcases List.mem_cons.mp hy with z | z
      · subst z; exact Int.le_max_left ..
      · exact Int.le_trans (h2 y z) (Int.le_max_right ..)
theorem minI_mem : ∀ {l : List Int}, l ≠ [] → minI l ∈ l ∧ ∀ y ∈ l, minI l ≤ y
  | [], h => absurd rfl h
  | [a], _ => by simp [minI]
  | a :: b :: r, _ => by
    obtain ⟨h1, h2⟩ := minI_mem (l := b :: r) (by simp)
    have e : minI (a :: b :: r) = min a (minI (b :: r)) := rfl
    rw [e]
    refine ⟨?_, fun y hy => ?_⟩
    · by_cases q : a ≤ minI (b :: r)
      · rw [Int.min_eq_left q]; exact List.mem_cons_self
      · rw [Int.min_eq_right (by omega)]; exact List.mem_cons_of_mem _ h1
    · rcases List.mem_cons.mp hy with z | z
      · subst z; exact Int.min_le_left ..
      · exact Int.le_trans (Int.min_le_right ..) (h2 y z)

section
variable {X : Cx}
theorem ca_len : CallR X (.builtin "len") (RAof X.K (biV .len)) := by
  intro pins s σ H xs us Q I r h
  obtain ⟨T, ws, M, rfl, rm, iv, hs⟩ := h
  simp only [biV] at hs
  split at hs <;> try (exact hs.elim)
  all_goals (try simp_all)
  rename_i w _
  obtain ⟨x, rfl, ix⟩ := iv.one
  split at hs
  · rename_i l e
    obtain ⟨a, ys, rfl, hz, hy, _⟩ := rd_tup rm ix e
    exact call_len_seq pins s σ T.H _ us Q I r ⟨a, ys, rfl, .inr hz.sq, by rw [hy.length]; exact hs.here rm (.int _)⟩
  · rename_i l e
    obtain ⟨a, ys, rfl, hz, hy⟩ := rd_lst rm ix e
    exact call_len_seq pins s σ T.H _ us Q I r ⟨a, ys, rfl, .inl (SqL.of hz), by rw [hy.length]; exact hs.here rm (.int _)⟩
  · rename_i l e
    obtain ⟨a, ys, rfl, hz, hy⟩ := rd_scr rm ix e
    exact call_len_seq pins s σ T.H _ us Q I r ⟨a, ys, rfl, .inl hz.sq, by rw [hy.length]; exact hs.here rm (.int _)⟩
  · rename_i l e
    have := rd_str rm ix e
    subst this
    split at hs
    · rename_i hl
      exact call_len_str pins s σ T.H _ us Q I r ⟨l, rfl, hl, hs.here rm (.int _)⟩
    · exact hs.elim
  · exact hs.elim
theorem ca_int : CallR X (.type "int") (RAof X.K (biV .int)) := by
  intro pins s σ H xs us Q I r h
  obtain ⟨T, ws, M, rfl, rm, iv, hs⟩ := h
  rcases ws with _ | ⟨w, _ | ⟨_, _⟩⟩
  · exact False.elim hs
  · obtain ⟨x, rfl, ix⟩ := iv.one
    cases w with
    | int i => exact call_int1 pins s σ T.H _ us Q I r (.inl ⟨i, by rw [ix.int_is], hs.here rm (.int _)⟩)
    | bl b => exact call_int1 pins s σ T.H _ us Q I r (.inr ⟨b, by rw [ix.bl_is], hs.here rm (.int _)⟩)
    | _ => exact False.elim hs
  · exact False.elim (by cases w <;> exact hs)
theorem ca_abs : CallR X (.builtin "abs") (RAof X.K (biV .abs)) := by
  intro pins s σ H xs us Q I r h
  obtain ⟨T, ws, M, rfl, rm, iv, hs⟩ := h
  rcases ws with _ | ⟨w, _ | ⟨_, _⟩⟩
  · exact False.elim hs
  · obtain ⟨x, rfl, ix⟩ := iv.one
    cases w with
    | int i =>
      refine call_abs pins s σ T.H _ us Q I r ⟨i, by rw [ix.int_is], ?_⟩
      have e : (if i < 0 then -i else i) = (i.natAbs : Int) := by split <;> omega
      rw [e]
      exact hs.here rm (.int _)
    | _ => exact False.elim hs
  · exact False.elim (by cases w <;> exact hs)
theorem ca_max2 (hc : X.calm = true) : CallR X (.builtin "max") (RAof X.K (biV .max2)) := by
  intro pins s σ H xs us Q I r h
  obtain ⟨T, ws, M, rfl, rm, iv, hs⟩ := h
  rcases ws with _ | ⟨w, _ | ⟨w2, _ | ⟨_, _⟩⟩⟩
  · exact False.elim hs
  · exact False.elim (by cases w <;> exact hs)
  · obtain ⟨x, y, rfl, ix, iy⟩ := iv.two
    cases w with
    | int i =>
      cases w2 with
      | int j =>
        refine call_max2 hc pins s σ T.H _ us Q I r ⟨i, j, by rw [ix.int_is, iy.int_is], ?_⟩
        have e : (if j > i then j else i) = max i j := by
          rw [Int.max_def]
          split <;> split <;> omega
        rw [e]
        exact hs.here rm (.int _)
      | _ => exact False.elim hs
    | _ => exact False.elim hs
  · exact False.elim (by cases w <;> cases w2 <;> exact hs)
theorem ca_min2 (hc : X.calm = true) : CallR X (.builtin "min") (RAof X.K (biV .min2)) := by
  intro pins s σ H xs us Q I r h
  obtain ⟨T, ws, M, rfl, rm, iv, hs⟩ := h
  rcases ws with _ | ⟨w, _ | ⟨w2, _ | ⟨_, _⟩⟩⟩
  · exact False.elim hs
  · exact False.elim (by cases w <;> exact hs)
  · obtain ⟨x, y, rfl, ix, iy⟩ := iv.two
    cases w with
    | int i =>
      cases w2 with
      | int j =>
        refine call_min2 hc pins s σ T.H _ us Q I r ⟨i, j, by rw [ix.int_is, iy.int_is], ?_⟩
        have e : (if j < i then j else i) = min i j := by
          rw [Int.min_def]
          split <;> split <;> omega
        rw [e]
        exact hs.here rm (.int _)
      | _ => exact False.elim hs
    | _ => exact False.elim hs
  · exact False.elim (by cases w <;> cases w2 <;> exact hs)
theorem ca_sum (hc : X.calm = true) : CallR X (.builtin "sum") (RAof X.K (biV .sum)) := by
  intro pins s σ H xs us Q I r h
  obtain ⟨T, ws, M, rfl, rm, iv, hs⟩ := h
  rcases ws with _ | ⟨w, _ | ⟨_, _⟩⟩
  · exact False.elim hs
  · obtain ⟨x, rfl, ix⟩ := iv.one
    simp only [biV] at hs
    cases e : seqLst M w with
    | none => rw [e] at hs; exact False.elim hs
    | some l =>
      rw [e] at hs
      simp only [Option.bind_some] at hs
      cases e2 : intsOf l with
      | none => rw [e2] at hs; exact False.elim hs
      | some is =>
        rw [e2] at hs
        obtain ⟨a, ys, rfl, hz, hy, _⟩ := seqLst_is rm ix e
        obtain ⟨h1, _⟩ := intsOf_is e2 hy
        subst h1
        exact cr_sum hc pins s σ T.H _ us Q I r ⟨a, is, rfl, SqL.of hz, hs.here rm (.int _)⟩
  · exact False.elim hs
theorem ca_all (hc : X.calm = true) : CallR X (.builtin "all") (RAof X.K (biV .all)) := by
  intro pins s σ H xs us Q I r h
  obtain ⟨T, ws, M, rfl, rm, iv, hs⟩ := h
  rcases ws with _ | ⟨w, _ | ⟨_, _⟩⟩
  · exact False.elim hs
  · obtain ⟨x, rfl, ix⟩ := iv.one
    simp only [biV] at hs
    cases e : seqLst M w with
    | none => rw [e] at hs; exact False.elim hs
    | some l =>
      rw [e] at hs
      simp only [Option.bind_some] at hs
      cases e2 : boolsOf l with
      | none => rw [e2] at hs; exact False.elim hs
      | some is =>
        rw [e2] at hs
        obtain ⟨a, ys, rfl, hz, hy, _⟩ := seqLst_is rm ix e
        have h1 := boolsOf_is e2 hy
        subst h1
        exact cr_all hc pins s σ T.H _ us Q I r ⟨a, is, rfl, SqL.of hz, hs.here rm (.bl _)⟩
  · exact False.elim hs
theorem ca_max1 (hc : X.calm = true) : CallR X (.builtin "max") (RAof X.K (biV .max1)) := by
  intro pins s σ H xs us Q I r h
  obtain ⟨T, ws, M, rfl, rm, iv, hs⟩ := h
  rcases ws with _ | ⟨w, _ | ⟨_, _⟩⟩
  · exact False.elim hs
  · obtain ⟨x, rfl, ix⟩ := iv.one
    simp only [biV] at hs
    cases e : seqLst M w with
    | none => rw [e] at hs; exact False.elim hs
    | some l =>
      rw [e] at hs
      simp only [Option.bind_some] at hs
      cases e2 : intsOf l with
      | none => rw [e2] at hs; exact False.elim hs
      | some is =>
        rw [e2] at hs
        simp only [Option.bind_some] at hs
        split at hs
        · exact False.elim hs
        · rename_i hne
          obtain ⟨a, ys, rfl, hz, hy, _⟩ := seqLst_is rm ix e
          obtain ⟨h1, _⟩ := intsOf_is e2 hy
          subst h1
          obtain ⟨m1, m2⟩ := maxI_mem hne
          refine cr_max hc pins s σ T.H _ us Q I r ⟨a, is, rfl, SqL.of hz, (by cases is with | nil => exact absurd rfl hne | cons a r => simp), fun m hm hge => ?_⟩
          have e3 : m = maxI is := Int.le_antisymm (m2 m hm) (hge _ m1)
          subst e3
          exact hs.here rm (.int _)
  · exact False.elim hs
theorem ca_min1 (hc : X.calm = true) : CallR X (.builtin "min") (RAof X.K (biV .min1)) := by
  intro pins s σ H xs us Q I r h
  obtain ⟨T, ws, M, rfl, rm, iv, hs⟩ := h
  rcases ws with _ | ⟨w, _ | ⟨_, _⟩⟩
  · exact False.elim hs
  · obtain ⟨x, rfl, ix⟩ := iv.one
    simp only [biV] at hs
    cases e : seqLst M w with
    | none => rw [e] at hs; exact False.elim hs
    | some l =>
      rw [e] at hs
      simp only [Option.bind_some] at hs
      cases e2 : intsOf l with
      | none => rw [e2] at hs; exact False.elim hs
      | some is =>
        rw [e2] at hs
        simp only [Option.bind_some] at hs
        split at hs
        · exact False.elim hs
        · rename_i hne
          obtain ⟨a, ys, rfl, hz, hy, _⟩ := seqLst_is rm ix e
          obtain ⟨h1, _⟩ := intsOf_is e2 hy
          subst h1
          obtain ⟨m1, m2⟩ := minI_mem hne
          refine cr_min hc pins s σ T.H _ us Q I r ⟨a, is, rfl, SqL.of hz, (by cases is with | nil => exact absurd rfl hne | cons a r => simp), fun m hm hge => ?_⟩
          have e3 : m = minI is := Int.le_antisymm (hge _ m1) (m2 m hm)
          subst e3
          exact hs.here rm (.int _)
  · exact False.elim hs
theorem ca_list {fz : Bool} : CallR X (.type "list") (RAof X.K (biV (.list fz))) := by
  intro pins s σ H xs us Q I r h
  obtain ⟨T, ws, M, rfl, rm, iv, hs⟩ := h
  rcases ws with _ | ⟨w, _ | ⟨_, _⟩⟩
  · exact False.elim hs
  · obtain ⟨x, rfl, ix⟩ := iv.one
    simp only [biV] at hs
    split at hs
    · rename_i l e
      obtain ⟨a, ys, rfl, hz, hy, _⟩ := seq_is rm ix e
      refine call_list_of pins s σ T.H _ us Q I r ⟨a, ys, rfl, hz.imp id FzT.sq, fun p hp => ?_⟩
      obtain ⟨w', M', T', q1, q2, q3, q4, q5⟩ := mkL_ok (fz := fz) rm hy hp
      rw [q1] at hs
      rw [← q2]
      exact hs _ T' q3 q4 q5
    · exact False.elim hs
  · exact False.elim hs
theorem ca_tuple : CallR X (.type "tuple") (RAof X.K (biV .tuple)) := by
  intro pins s σ H xs us Q I r h
  obtain ⟨T, ws, M, rfl, rm, iv, hs⟩ := h
  rcases ws with _ | ⟨w, _ | ⟨_, _⟩⟩
  · exact False.elim hs
  · obtain ⟨x, rfl, ix⟩ := iv.one
    simp only [biV] at hs
    cases e : seq M w with
    | none => rw [e] at hs; exact False.elim hs
    | some l =>
      rw [e] at hs
      obtain ⟨a, ys, rfl, hz, hy, _⟩ := seq_is rm ix e
      refine call_tuple_of pins s σ T.H _ us Q I r ⟨a, ys, rfl, ?_⟩
      rcases hz with hz | hz
      · refine .inl ⟨hz, fun p hp => ?_⟩
        obtain ⟨e1, rm', np⟩ := fresh_fz rm hp (.tup ys)
        exact hs (.ref p) _ e1 rm' (.tup (.inl ⟨.inl upd_same, np⟩) (hy.ext e1))
      · exact .inr ⟨hz.sq, hs.here rm (.tup hz hy)⟩
  · exact False.elim hs
theorem shown_non : PyData.shown (toD .non) = ("None" : Str) := rfl
theorem ca_repr (hg : X.A.guards = some []) (hu : X.A.units + 200 < cLine) : CallR X (.builtin "repr") (RAof X.K (biV .repr)) := by
  intro pins s σ H xs us Q I r h
  obtain ⟨T, ws, M, rfl, rm, iv, hs⟩ := h
  rcases ws with _ | ⟨w, _ | ⟨_, _⟩⟩
  · exact False.elim hs
  · obtain ⟨x, rfl, ix⟩ := iv.one
    simp only [biV] at hs
    split at hs
    · rename_i c
      obtain ⟨c1, c2, c3, c4⟩ := c
      obtain ⟨u, rfl, rx⟩ := L2.Vals.one r
      have fin := hs.here rm (.str _)
      have rr := rd_rs I rm ix c1 rx
      have key : ∀ a, u = .ref a → wpAny (model X.prog X.w) X.A (call (.builtin "repr") [u]) (EP X pins σ Q) X.xe s := by
        rintro a rfl
        refine repr_RS rr c2 hg (by rw [dep_toD]; unfold depLine at c3; omega) (fun h' tk t hk => ?_) c4
        exact ⟨.str _, T.H, I.kept (t' := t) hk, ⟨_, rfl⟩, fin⟩
      cases q : rd M w with
      | non =>
        rw [q] at rr fin
        cases rr
        exact PySem.P.repr_of_none ⟨.str _, T.H, I.tok _, ⟨_, rfl⟩, fin⟩
      | bl b =>
        rw [q] at rr fin
        cases rr
        exact PySem.P.repr_of_bool ⟨.str _, T.H, I.tok _, ⟨_, rfl⟩, fin⟩
      | int i =>
        rw [q] at rr fin c2
        cases rr
        exact PySem.P.repr_of_int (by simpa [toD, PyData.showable] using c2) ⟨.str _, T.H, I.tok _, ⟨_, rfl⟩, fin⟩
      | str i =>
        rw [q] at rr fin c4
        cases rr
        exact PySem.P.repr_of_str ⟨.str _, T.H, I.tok _, ⟨_, rfl⟩, fin⟩ c4
      | tup l => rw [q] at rr; cases rr; exact key _ rfl
      | lst l => rw [q] at rr; cases rr; exact key _ rfl
      | dic => rw [q] at rr; cases rr; exact key _ rfl
      | ref n => rw [q] at c1; simp [pureR] at c1
      | xc c l => rw [q] at c1; simp [pureR] at c1
      | scr l => rw [q] at c1; simp [pureR] at c1
    · exact False.elim hs
  · exact False.elim hs
/-! ### sorted -/
theorem each_zip {K : PySem.W.Frag} {T : Ws} : ∀ {ys : List V} {l : List Vl} {its : List Value}, IsVs K T ys l → L2.Vals ys its → PySem.W.EachIs (fun u (p : V × Vl) => L2.RelV p.1 u ∧ IsV K T p.1 p.2) its (ys.zip l)
  | _, _, _, .nil, .nil => .nil
  | _, _, _, .cons a r, .cons b s => .cons ⟨b, a⟩ (each_zip r s)
theorem each_out {K : PySem.W.Frag} {T : Ws} : ∀ {out : List Value} {ps : List (V × Vl)}, PySem.W.EachIs (fun u (p : V × Vl) => L2.RelV p.1 u ∧ IsV K T p.1 p.2) out ps → L2.Vals (ps.map (·.1)) out ∧ IsVs K T (ps.map (·.1)) (ps.map (·.2))
  | _, _, .nil => ⟨.nil, .nil⟩
  | _, _, .cons h t => ⟨.cons h.1 (each_out t).1, .cons h.2 (each_out t).2⟩
theorem map_snd_zip : ∀ {ys : List V} {l : List Vl}, ys.length = l.length → (ys.zip l).map (·.2) = l
  | [], [], _ => rfl
  | _ :: ys, _ :: l, h => by simp [map_snd_zip (ys := ys) (l := l) (by simpa using h)]
theorem toDL_map : ∀ l : List Vl, toDL l = l.map toD
  | [] => rfl
  | x :: r => by simp [toDL, toDL_map r]
theorem pureL_mem : ∀ {l : List Vl}, pureL l = true → ∀ x ∈ l, pureV x = true
  | [], _, x, h => by simp at h
  | y :: r, p, x, h => by
    have q : pureV y = true ∧ pureL r = true := by simpa [pureL] using p
    rcases List.mem_cons.mp h with z | z
    · subst z; exact q.1
    · exact pureL_mem q.2 x z
theorem depL_mem : ∀ {l : List Vl} {x : Vl}, x ∈ l → dep x ≤ depL l
  | y :: r, x, h => by
    rcases List.mem_cons.mp h with z | z
    · subst z; exact Nat.le_max_left ..
    · exact Nat.le_trans (depL_mem z) (Nat.le_max_right ..)
theorem ca_sorted {fz : Bool} (hu : X.A.units + 200 < cLine) : CallR X (.builtin "sorted") (RAof X.K (biV (.sorted fz))) := by
  intro pins s σ H xs us Q I r h
  obtain ⟨T, ws, M, rfl, rm, iv, hs⟩ := h
  rcases ws with _ | ⟨w, _ | ⟨_, _⟩⟩
  · exact False.elim hs
  · obtain ⟨x, rfl, ix⟩ := iv.one
    simp only [biV] at hs
    split at hs
    · rename_i l e
      split at hs
      · rename_i hc
        obtain ⟨u, rfl, rx⟩ := L2.Vals.one r
        obtain ⟨a, ys', rfl, hz', hy', hr⟩ := seqLst_is rm ix e
        · cases rx
          obtain ⟨c1, c2, c3, c4⟩ := hc
          obtain ⟨its, rv, hpl, hlen⟩ := I.list (SqL.of (K := X.K) hz')
          have el := hy'.length
          have hmap : ((ys'.zip l).map (toD ∘ (·.2))) = toDL l := by
            rw [toDL_map, ← List.map_map, map_snd_zip el]
          have dpl := isVs_dp hy' c1
          obtain ⟨as, ra⟩ := Dp.readsAll I (toDL l) ys' its dpl rv
          have er : PySem.W.EachIs (fun v (b : V × Vl) => ∃ as, Reads s.heap v ((toD ∘ (·.2)) b) as) its (ys'.zip l) := PySem.W.readsAll_each (β := V × Vl) (toD ∘ (·.2)) (by rw [hmap]; exact ra)
          refine PySem.W.sorted_data (β := V × Vl) (enc := toD ∘ (·.2)) (R := fun u (p : V × Vl) => L2.RelV p.1 u ∧ IsV X.K T p.1 p.2) hpl.isList (each_zip hy' rv) er ?_ ?_ ?_ (fun b hb => ?_) fun out ho eo => ?_
          · rw [hmap, toDL_map]
            intro d hd d' hd'
            obtain ⟨x, hx, rfl⟩ := List.mem_map.mp hd
            obtain ⟨y, hy2, rfl⟩ := List.mem_map.mp hd'
            exact (List.all_eq_true.mp ((List.all_eq_true.mp c2) x hx)) y hy2
          · rw [hmap, toDL_map]
            rcases c3 with c3 | c3
            · refine .inl fun d hd => ?_
              obtain ⟨x, hx, rfl⟩ := List.mem_map.mp hd
              have q := List.all_eq_true.mp c3 x hx
              cases x with
              | tup t =>
                cases t with
                | nil => simp [tupFull] at q
                | cons t0 tr => exact ⟨toD t0, toDL tr, rfl⟩
              | _ => simp [tupFull] at q
            · refine .inr fun d hd => ?_
              obtain ⟨x, hx, rfl⟩ := List.mem_map.mp hd
              have q := List.all_eq_true.mp c3 x hx
              have pv := pureL_mem c1 x hx
              cases x <;> first | (simp [noTup] at q; done) | (simp [pureV] at pv; done) | exact ⟨by simp [toD], fun xs => by simp [toD]⟩
          · rw [List.length_zip]; omega
          · have hb2 : b.2 ∈ l := (List.of_mem_zip hb).2
            show X.A.units + 2 + (toD b.2).depth < cLine
            rw [dep_toD]
            have := depL_mem hb2
            unfold depLine at c4
            omega
          · obtain ⟨o1, o2⟩ := each_out eo
            have e2 : ((ys'.zip l).mergeSort (PySem.W.dataLe false (toD ∘ (·.2)))).map (·.2) = sortV l := by
              have q := PySem.W.sort_maps (r := PySem.W.dataLe false (toD ∘ fun (p : V × Vl) => p.2)) (s := leV) (fun (p : V × Vl) => p.2) (l := ys'.zip l) (fun a _ b _ => rfl)
              rw [map_snd_zip el] at q
              exact q
            rw [e2] at o2
            obtain ⟨ep, he'⟩ := PyProof.Rows.sortedAll_at s.heap its out.toArray
            obtain ⟨w', M', T', q1, q2, q3, q4, q5⟩ := mkL_ok (fz := fz) rm o2 (p := s.heap.objs.size + 1) (I.hok.fresh (Nat.le_succ _))
            rw [q1] at hs
            refine ⟨.ref _, T'.H, ?_, rfl, hs _ T' q3 q4 q5⟩
            rw [q2]
            refine I.laid (t' := s.toks) (fun _ _ => PyProof.Rows.sortedAll_old) (Nat.le_succ _) ⟨?_, out, ep, o1, he'⟩
            rw [o1.length, ho, List.length_zip]
            omega
      · exact False.elim hs
    · exact False.elim hs
  · exact False.elim hs
/-! ### isinstance -/
def tyName : Ty → String
  | .int => "int"
  | .bool => "bool"
  | .str => "str"
  | .tuple => "tuple"
  | .list => "list"
  | .dict => "dict"
theorem isi_ok {pins : List (Addr × Obj)} {s : Shared} {σ : L2.St} {T : Ws} {M : Mm} {x : V} {w : Vl} {t : Ty} {b : Bool} {us : List Value} {Q : VK} (I : Inv X pins σ T.H s) (rm : RelM X.K T M) (ix : IsV X.K T x w) (e : insTy M w t = some b) (r : L2.Vals [x, .ty (tyName t)] us) (q : Q (.bl b) T.H) :
    wpAny (model X.prog X.w) X.A (call (.builtin "isinstance") us) (EP X pins σ Q) X.xe s := by
  have fin : ∀ (tn : String), TyX X.K T.H x (.type tn) → kitB tn (tyName t) = some b → wpAny (model X.prog X.w) X.A (call (.builtin "isinstance") us) (EP X pins σ Q) X.xe s := fun tn h1 h2 =>
    call_isi pins s σ T.H _ us Q I r ⟨x, .ty (tyName t), .type tn, .type (tyName t), b, rfl, .ty _, h1, kit_ty h2, q⟩
  unfold insTy at e
  split at e <;> rename_i e1
  · cases e
    have := rd_non rm ix e1
    subst this
    exact fin "NoneType" (.base .non) (by cases t <;> decide +kernel)
  · cases e
    have := rd_bl rm ix e1
    subst this
    exact fin "bool" (.base (.bl _)) (by cases t <;> decide +kernel)
  · cases e
    have := rd_int rm ix e1
    subst this
    exact fin "int" (.base (.int _)) (by cases t <;> decide +kernel)
  · cases e
    have := rd_str rm ix e1
    subst this
    exact fin "str" (.base (.str _)) (by cases t <;> decide +kernel)
  · cases e
    obtain ⟨a, ys, rfl, hz, _⟩ := rd_tup rm ix e1
    refine fin "tuple" ?_ (by cases t <;> decide +kernel)
    rcases hz with ⟨hz, _⟩ | hz
    · rcases hz with hz | ⟨o, hz⟩
      · exact .base (.tup hz)
      · exact .fTuple hz
    · rcases hz with hz | ⟨o, its, n, h1, h2, _⟩
      · exact absurd hz no_rd
      · exact .kTuple h1 h2
  · cases e
    obtain ⟨a, ys, rfl, hz, _⟩ := rd_lst rm ix e1
    exact fin "list" (.base (.lst hz)) (by cases t <;> decide +kernel)
  · cases e
    have := rd_same rm ix e1 (fun l q => nomatch q)
    subst this
    cases ix with
    | dic hz => exact fin "dict" (.base (.dK hz.1)) (by cases t <;> decide +kernel)
  · cases e
end
end Sg
end

section
set_option Elab.async false
set_option linter.all false
set_option maxRecDepth 100000
set_option maxHeartbeats 1000000
/-! Sg, part 5: expressions. -/
namespace Sg
open PySem PySem.Spec PyProof.Rows L2

def XW (G : Pg) (Wx : WX) (s : L2.St) : Ws → String → List Vl → Mm → Prop := fun T c ws M =>
  ∀ cls d T', Ext T T' → RelM G.K T' M → IsX G T' cls d c ws → Wx cls d s T'.H
def MonoX (xw : Ws → String → List Vl → Mm → Prop) : Prop := ∀ T T' c ws M, Ext T T' → xw T c ws M → xw T' c ws M
theorem XW.mono {G : Pg} {Wx : WX} {s : L2.St} : MonoX (XW G Wx s) := fun T T' c ws M e h cls d T2 e2 rm ix => h cls d T2 (e.trans e2) rm ix
theorem noX.mono : MonoX noX := fun _ _ _ _ _ _ h => h
theorem Sat.ext {α β : Type} {K : PySem.W.Frag} {rel : Ws → β → α → Prop} {xw : Ws → String → List Vl → Mm → Prop} (mx : MonoX xw) {T T' : Ws} {r : R α} {Q : β → Hp → Prop} (e : Ext T T') (h : Sat K rel xw T r Q) : Sat K rel xw T' r Q := by
  cases r with
  | ok w M => exact fun v T2 e2 rm i => h v T2 (e.trans e2) rm i
  | exc c ws M => exact mx _ _ _ _ _ e h
  | bad => exact h
theorem Sat.bind {α β γ δ : Type} {K : PySem.W.Frag} {rel : Ws → β → α → Prop} {rel' : Ws → δ → γ → Prop} {xw : Ws → String → List Vl → Mm → Prop} (mx : MonoX xw) {T : Ws} {r : R α} {f : α → Mm → R γ} {Q : δ → Hp → Prop} {P : β → Hp → Prop}
    (h : Sat K rel' xw T (r.bind f) Q) (k : ∀ w M1 v T1, Ext T T1 → RelM K T1 M1 → rel T1 v w → Sat K rel' xw T1 (f w M1) Q → P v T1.H) : Sat K rel xw T r P := by
  cases r with
  | ok w M => exact fun v T1 e rm i => k w M v T1 e rm i (h.ext mx e)
  | exc c ws M => exact h
  | bad => exact h
theorem Sat.imp {α β : Type} {K : PySem.W.Frag} {rel : Ws → β → α → Prop} {xw : Ws → String → List Vl → Mm → Prop} {T : Ws} {r : R α} {Q Q' : β → Hp → Prop} (h : Sat K rel xw T r Q) (k : ∀ v H, Q v H → Q' v H) : Sat K rel xw T r Q' := by
  cases r with
  | ok w M => exact fun v T1 e rm i => k _ _ (h v T1 e rm i)
  | exc c ws M => exact h
  | bad => exact h
def Calm {α : Type} (r : R α) : Prop := ∀ c ws M, r ≠ .exc c ws M
theorem Sat.calm {α β : Type} {K : PySem.W.Frag} {rel : Ws → β → α → Prop} {xw xw' : Ws → String → List Vl → Mm → Prop} {T : Ws} {r : R α} {Q : β → Hp → Prop} (h : Sat K rel xw T r Q) (hc : Calm r) : Sat K rel xw' T r Q := by
  cases r with
  | ok w M => exact h
  | exc c ws M => exact absurd rfl (hc c ws M)
  | bad => exact h
theorem calm_of {α : Type} {o : Option α} {M : Mm} : Calm (R.of o M) := by
  intro c ws M' h
  cases o <;> simp [R.of] at h
theorem calm_mk {fz : Bool} {l : List Vl} {M : Mm} : Calm (mkL fz l M) := by
  intro c ws M' h
  unfold mkL at h
  split at h <;> cases h
theorem calm_bin {op : Op2} {fz : Bool} {a b : Vl} {M : Mm} : Calm (bin2 op fz a b M) := by
  intro c ws M' h
  cases op <;> simp only [bin2, addV, mulV] at h <;> (repeat' split at h) <;> first | (cases h; done) | exact calm_mk _ _ _ h
theorem calm_idx {a b : Vl} {M : Mm} : Calm (idxV a b M) := by
  intro c ws M' h
  unfold idxV at h
  (repeat' split at h) <;> first | (cases h; done) | exact calm_of _ _ _ h
theorem calm_sl {fz : Bool} {a : Vl} {lo hi : Option Int} {M : Mm} : Calm (slV fz a lo hi M) := by
  intro c ws M' h
  unfold slV at h
  (repeat' split at h) <;> first | (cases h; done) | exact calm_mk _ _ _ h
theorem calm_bi {b : BI} {l : List Vl} {M : Mm} : Calm (biV b l M) := by
  intro c ws M' h
  unfold biV at h
  (repeat' split at h) <;> first | (cases h; done) | exact calm_mk _ _ _ h | exact calm_of _ _ _ h
theorem calm_methL {m : BM} {n : Nat} {l ws : List Vl} {M : Mm} : Calm (methL m n l ws M) := by
  intro c ws M' h
  unfold methL at h
  (repeat' split at h) <;> first | (cases h; done)
theorem calm_meth {m : BM} {o : Vl} {l : List Vl} {M : Mm} : Calm (methV m o l M) := by
  intro c ws M' h
  unfold methV at h
  (repeat' split at h) <;> first | (cases h; done) | exact calm_of _ _ _ h | exact calm_methL _ _ _ h

/-! ### the judgements -/
section
variable (G : Pg) (Wx : WX) (cf : CF)
def TEx (c : E) : TE := fun s H Q => ∃ T σ M, T.H = H ∧ RelM G.K T M ∧ RelS G T s σ ∧ Sat G.K (IsV G.K) (XW G Wx s) T (evE G.kl cf c σ M) Q
def TAx (c : Es) : TA := fun s H Q => ∃ T σ M, T.H = H ∧ RelM G.K T M ∧ RelS G T s σ ∧ Sat G.K (IsVs G.K) (XW G Wx s) T (evEs G.kl cf c σ M) Q
/-- the answer of a test -/
def evB (kl : Kls) (cf : CF) (c : E) (σ : Sl) (M : Mm) : R Bool := (evE kl cf c σ M).bind fun x M1 => R.of (tru M1 x) M1
def sameB : Ws → Bool → Bool → Prop := fun _ a b => a = b
def TTx (c : E) : TT := fun s H Q => ∃ T σ M, T.H = H ∧ RelM G.K T M ∧ RelS G T s σ ∧ Sat G.K sameB (XW G Wx s) T (evB G.kl cf c σ M) Q
def TOx (c : OE) : TO := fun s H Q => ∃ T σ M, T.H = H ∧ RelM G.K T M ∧ RelS G T s σ ∧ Sat G.K (fun _ (a b : Option Int) => a = b) (XW G Wx s) T (evOE G.kl cf c σ M) Q
end
section
variable {X : Cx} {e : Expr} {t t' : TE}
theorem pe_weak (h : PE X e t) (k : ∀ s H Q, t' s H Q → t s H Q) : PE X e t' := ⟨fun pins s σ H Q I q => h.run pins s σ H Q I (k _ _ _ q)⟩
theorem pt_weak {t t' : TT} (h : PT X e t) (k : ∀ s H Q, t' s H Q → t s H Q) : PT X e t' := ⟨fun pins s σ H Q I q => h.run pins s σ H Q I (k _ _ _ q)⟩
theorem pw_weak {t t' : TT} (h : PW X e t) (k : ∀ s H Q, t' s H Q → t s H Q) : PW X e t' := ⟨fun wh pins s σ H Q I q => h.run wh pins s σ H Q I (k _ _ _ q)⟩
theorem pa_weak {es : List Expr} {t t' : TA} (h : PA X es t) (k : ∀ s H Q, t' s H Q → t s H Q) : PA X es t' := ⟨fun pos pins s σ H Q I q => h.run pos pins s σ H Q I (k _ _ _ q)⟩
theorem po_weak {o : Option Expr} {t t' : TO} (h : PO X o t) (k : ∀ s H Q, t' s H Q → t s H Q) : PO X o t' := ⟨fun pins s σ H Q I q => h.run pins s σ H Q I (k _ _ _ q)⟩
theorem ps_weak {st : Stmt} {t t' : TS} (h : PS X st t) (k : ∀ D s H, t' D s H → t D s H) : PS X st t' := ⟨fun pins s σ H D I q => h.run pins s σ H D I (k _ _ _ q)⟩
theorem pss_weak {st : List Stmt} {t t' : TS} (h : PSs X st t) (k : ∀ D s H, t' D s H → t D s H) : PSs X st t' := ⟨fun pins s σ H D I q => h.run pins s σ H D I (k _ _ _ q)⟩
end

section
variable {G : Pg} {Wx : WX} {cf : CF} {X : Cx} {e e1 e2 e3 : Expr} {c c1 c2 c3 : E} {pos : Pos}

/-! ### atoms -/
theorem x_var {i : Nat} {x : Str} (hN : X.N[i]? = some x) (hv : Vis X.env.scope x) (hd : (x == ("__debug__" : Str)) = false) (hcd : (x == ("__classdict__" : Str)) = false) : PE X (.Name x pos) (TEx G Wx cf (.var i)) := by
  refine pe_weak (pe_var hN hv hd hcd) fun s H Q h => ?_
  obtain ⟨T, σ, M, rfl, rm, rs, h⟩ := h
  simp only [evE] at h
  cases q : σ[i]? with
  | none => rw [q] at h; exact h.elim
  | some o =>
    cases o with
    | none => rw [q] at h; exact h.elim
    | some w =>
      rw [q] at h
      obtain ⟨v, h1, h2⟩ := rs.val i w q
      rcases h2 with h2 | ⟨c, ws, rfl, _⟩
      · refine ⟨v, h1, ?_⟩
        have e1 : varV (some w) = some w := by cases h2 <;> rfl
        rw [show (some (some w)).bind id = some w from rfl, e1] at h
        exact h.here rm h2
      · exact h.elim
theorem x_int {i : Int} {j : Nat} : PE X (.Constant (.int i) j pos) (TEx G Wx cf (.cst (.int i))) :=
  pe_weak pe_int fun s H Q ⟨T, σ, M, hT, rm, rs, h⟩ => by subst hT; exact h.here rm (.int i)
theorem x_bl {i : Bool} {j : Nat} : PE X (.Constant (.bool i) j pos) (TEx G Wx cf (.cst (.bl i))) :=
  pe_weak pe_bl fun s H Q ⟨T, σ, M, hT, rm, rs, h⟩ => by subst hT; exact h.here rm (.bl i)
theorem x_str {i : Str} {j : Nat} : PE X (.Constant (.str i) j pos) (TEx G Wx cf (.cst (.str i))) :=
  pe_weak pe_str fun s H Q ⟨T, σ, M, hT, rm, rs, h⟩ => by subst hT; exact h.here rm (.str i)
theorem x_non {j : Nat} : PE X (.Constant .none j pos) (TEx G Wx cf (.cst .non)) :=
  pe_weak pe_non fun s H Q ⟨T, σ, M, hT, rm, rs, h⟩ => by subst hT; exact h.here rm .non
theorem x_glb {x : Str} {n : String} {w : Vl} {v : V} {u : Value} (hg : Gl X x) (hm : X.mg x = some u) (r : L2.RelV v u) (hw : ∀ T, IsV G.K T v w) (hd : (x == ("__debug__" : Str)) = false) : PE X (.Name x pos) (TEx G Wx cf (.glb n w)) :=
  pe_weak (pe_glob hg hm r hd) fun s H Q ⟨T, σ, M, hT, rm, rs, h⟩ => by subst hT; exact h.here rm (hw T)

/-! ### arguments, displays -/
theorem x_nil : PA X [] (TAx G Wx cf .nil) :=
  pa_weak pa_nil fun s H Q ⟨T, σ, M, hT, rm, rs, h⟩ => by subst hT; exact h.here rm .nil
theorem x_cons {es : List Expr} {cs : Es} (ha : PE X e (TEx G Wx cf c)) (hr : PA X es (TAx G Wx cf cs)) (hs : starEach (e :: es) X.env = (false, eval e X.env) :: starEach es X.env) : PA X (e :: es) (TAx G Wx cf (.cons c cs)) := by
  refine pa_weak (pa_cons ha hr hs) fun s H Q h => ?_
  obtain ⟨T, σ, M, rfl, rm, rs, h⟩ := h
  simp only [evEs] at h
  refine ⟨T, σ, M, rfl, rm, rs, h.bind XW.mono fun w M1 v T1 e1 rm1 i1 h1 => ?_⟩
  refine ⟨T1, σ, M1, rfl, rm1, rs.ext e1, h1.bind XW.mono fun ws M2 vs T2 e2 rm2 i2 h2 => ?_⟩
  exact h2.here rm2 (.cons (i1.ext e2) i2)
def esLen : Es → Nat
  | .nil => 0
  | .cons _ r => esLen r + 1
theorem evEs_len {kl : Kls} : ∀ {cs : Es} {σ : Sl} {M M' : Mm} {ws : List Vl}, evEs kl cf cs σ M = .ok ws M' → ws.length = esLen cs
  | .nil, σ, M, M', ws, h => by
    simp only [evEs] at h
    cases h; rfl
  | .cons c r, σ, M, M', ws, h => by
    simp only [evEs] at h
    cases q : evE kl cf c σ M with
    | ok w M1 =>
      rw [q] at h
      simp only [R.bind_ok] at h
      cases q2 : evEs kl cf r σ M1 with
      | ok ws' M2 =>
        rw [q2] at h
        cases h
        rw [List.length_cons, evEs_len q2]
        rfl
      | exc a b d => rw [q2] at h; cases h
      | bad => rw [q2] at h; cases h
    | exc a b d => rw [q] at h; cases h
    | bad => rw [q] at h; cases h
/-- what an argument list gives, with its length -/
theorem Sat.len {K : PySem.W.Frag} {xw : Ws → String → List Vl → Mm → Prop} {T : Ws} {r : R (List Vl)} {Q : List V → Hp → Prop} {n : Nat} (h : Sat K (IsVs K) xw T r fun vs H => vs.length = n → Q vs H) (k : ∀ ws M, r = .ok ws M → ws.length = n) : Sat K (IsVs K) xw T r Q := by
  cases r with
  | ok ws M => exact fun vs T1 e rm i => h vs T1 e rm i (by rw [i.length]; exact k ws M rfl)
  | exc a b d => exact h
  | bad => exact h
theorem x_tup {es : List Expr} {cs : Es} {k : Nat} (ha : PA X es (TAx G Wx cf cs)) (hl : esLen cs ≤ 1000) : PE X (.Tuple es k pos) (TEx G Wx cf (.tup cs)) := by
  refine pe_weak (pe_tup ha) fun s H Q h => ?_
  obtain ⟨T, σ, M, rfl, rm, rs, h⟩ := h
  simp only [evE] at h
  refine ⟨T, σ, M, rfl, rm, rs, Sat.len (n := esLen cs) (h.bind XW.mono fun ws M1 vs T1 e1 rm1 i1 h1 hn => ?_) fun ws M' q => evEs_len q⟩
  refine ⟨by rw [hn]; exact Nat.le_trans hl (by decide), fun p hp => ?_⟩
  obtain ⟨e2, rm2, np⟩ := fresh_fz rm1 hp (.tup vs)
  exact h1 (.ref p) _ e2 rm2 (.tup (.inl ⟨.inl upd_same, np⟩) (i1.ext e2))
theorem x_lst {es : List Expr} {cs : Es} {fz : Bool} (ha : PA X es (TAx G Wx cf cs)) (hl : esLen cs ≤ 1000) : PE X (.List es pos) (TEx G Wx cf (.lst fz cs)) := by
  refine pe_weak (pe_lst ha) fun s H Q h => ?_
  obtain ⟨T, σ, M, rfl, rm, rs, h⟩ := h
  simp only [evE] at h
  refine ⟨T, σ, M, rfl, rm, rs, Sat.len (n := esLen cs) (h.bind XW.mono fun ws M1 vs T1 e1 rm1 i1 h1 hn => ?_) fun ws M' q => evEs_len q⟩
  refine ⟨by rw [hn]; exact Nat.le_trans hl (by decide), fun p hp => ?_⟩
  obtain ⟨w', M', T', q1, q2, q3, q4, q5⟩ := mkL_ok (fz := fz) rm1 i1 hp
  rw [q1] at h1
  rw [← q2]
  exact h1 _ T' q3 q4 q5

/-! ### operators -/
theorem x_bin {op : Op2} {o : Operator} {fz : Bool} (ho : OpR X (binaryOp o) (R2of G.K (bin2 op fz))) (ha : PE X e1 (TEx G Wx cf c1)) (hb : PE X e2 (TEx G Wx cf c2)) : PE X (.BinOp e1 o e2 pos) (TEx G Wx cf (.bin op fz c1 c2)) := by
  refine pe_weak (pe_op ho ha hb) fun s H Q h => ?_
  obtain ⟨T, σ, M, rfl, rm, rs, h⟩ := h
  simp only [evE] at h
  refine ⟨T, σ, M, rfl, rm, rs, h.bind XW.mono fun w M1 v T1 e1 rm1 i1 h1 => ?_⟩
  refine ⟨T1, σ, M1, rfl, rm1, rs.ext e1, h1.bind XW.mono fun w2 M2 v2 T2 e2 rm2 i2 h2 => ?_⟩
  exact ⟨T2, w, w2, M2, rfl, rm2, i1.ext e2, i2, h2.calm calm_bin⟩
theorem x_cmp {op : Cop} {o : CmpOp} (ho : OpR X (compareOp o) (R2of G.K fun a b M => R.of ((cmpV op a b M).map .bl) M)) (hm : behindInMarks o e2 = false) (ha : PE X e1 (TEx G Wx cf c1)) (hb : PE X e2 (TEx G Wx cf c2)) : PE X (.Compare e1 [o] [e2] pos) (TEx G Wx cf (.cmp op c1 c2)) := by
  refine pe_weak (pe_cmpR ho ha hb hm) fun s H Q h => ?_
  obtain ⟨T, σ, M, rfl, rm, rs, h⟩ := h
  simp only [evE] at h
  refine ⟨T, σ, M, rfl, rm, rs, h.bind XW.mono fun w M1 v T1 e1 rm1 i1 h1 => ?_⟩
  refine ⟨T1, σ, M1, rfl, rm1, rs.ext e1, h1.bind XW.mono fun w2 M2 v2 T2 e2 rm2 i2 h2 => ?_⟩
  exact ⟨T2, w, w2, M2, rfl, rm2, i1.ext e2, i2, h2.calm calm_of⟩
/-- is None -/
theorem isN_ok {K : PySem.W.Frag} {T : Ws} {v : V} {w : Vl} {b : Bool} (h : IsV K T v w) (hx : isNon w = some b) : decide (v = .non) = b := by
  cases h <;> first | (cases hx; done) | (cases hx; rfl) | (cases hx; simp)
theorem x_isn {j : Nat} {p : Pos} (ha : PE X e1 (TEx G Wx cf c1)) : PE X (.Compare e1 [.Is] [.Constant .none j p] pos) (TEx G Wx cf (.cmp .isn c1 (.cst .non))) := by
  refine pe_weak (pe_cmp (pc_isN ha)) fun s H Q h => ?_
  obtain ⟨T, σ, M, rfl, rm, rs, h⟩ := h
  simp only [evE] at h
  refine ⟨T, σ, M, rfl, rm, rs, h.bind XW.mono fun w M1 v T1 e1 rm1 i1 h1 => ?_⟩
  simp only [R.bind_ok, cmpV] at h1
  cases q : isNon w with
  | none => rw [q] at h1; exact h1.elim
  | some b =>
    rw [q] at h1
    rw [isN_ok i1 q]
    exact h1.here rm1 (.bl b)
theorem x_nisn {j : Nat} {p : Pos} (ha : PE X e1 (TEx G Wx cf c1)) : PE X (.Compare e1 [.IsNot] [.Constant .none j p] pos) (TEx G Wx cf (.cmp .nisn c1 (.cst .non))) := by
  refine pe_weak (pe_cmp (pc_notN ha)) fun s H Q h => ?_
  obtain ⟨T, σ, M, rfl, rm, rs, h⟩ := h
  simp only [evE] at h
  refine ⟨T, σ, M, rfl, rm, rs, h.bind XW.mono fun w M1 v T1 e1 rm1 i1 h1 => ?_⟩
  simp only [R.bind_ok, cmpV] at h1
  cases q : isNon w with
  | none => rw [q] at h1; exact h1.elim
  | some b =>
    rw [q] at h1
    rw [isN_ok i1 q]
    exact h1.here rm1 (.bl (!b))
theorem y_isn {j : Nat} {p : Pos} (ha : PE X e1 (TEx G Wx cf c1)) : PT X (.Compare e1 [.Is] [.Constant .none j p] pos) (TTx G Wx cf (.cmp .isn c1 (.cst .non))) := by
  refine pt_weak (pt_cmp (pc_isN ha)) fun s H Q h => ?_
  obtain ⟨T, σ, M, rfl, rm, rs, h⟩ := h
  simp only [evB, evE] at h
  refine ⟨T, σ, M, rfl, rm, rs, Sat.bind XW.mono (f := fun x M1 => (R.of ((cmpV .isn x .non M1).map .bl) M1).bind fun x M1 => R.of (tru M1 x) M1) (by
    cases q : evE G.kl cf c1 σ M <;> rw [q] at h <;> exact h) fun w M1 v T1 e1 rm1 i1 h1 => ?_⟩
  simp only [cmpV] at h1
  cases q : isNon w with
  | none => rw [q] at h1; exact h1.elim
  | some b =>
    rw [q] at h1
    rw [isN_ok i1 q]
    exact ⟨b, rfl, h1.here rm1 rfl⟩
theorem y_nisn {j : Nat} {p : Pos} (ha : PE X e1 (TEx G Wx cf c1)) : PT X (.Compare e1 [.IsNot] [.Constant .none j p] pos) (TTx G Wx cf (.cmp .nisn c1 (.cst .non))) := by
  refine pt_weak (pt_cmp (pc_notN ha)) fun s H Q h => ?_
  obtain ⟨T, σ, M, rfl, rm, rs, h⟩ := h
  simp only [evB, evE] at h
  refine ⟨T, σ, M, rfl, rm, rs, Sat.bind XW.mono (f := fun x M1 => (R.of ((cmpV .nisn x .non M1).map .bl) M1).bind fun x M1 => R.of (tru M1 x) M1) (by
    cases q : evE G.kl cf c1 σ M <;> rw [q] at h <;> exact h) fun w M1 v T1 e1 rm1 i1 h1 => ?_⟩
  simp only [cmpV] at h1
  cases q : isNon w with
  | none => rw [q] at h1; exact h1.elim
  | some b =>
    rw [q] at h1
    rw [isN_ok i1 q]
    exact ⟨!b, rfl, h1.here rm1 rfl⟩
theorem bind_assoc {α β γ : Type} (r : R α) (f : α → Mm → R β) (g : β → Mm → R γ) : (r.bind f).bind g = r.bind fun a m => (f a m).bind g := by
  cases r <;> rfl
theorem y_cmp {op : Cop} {o : CmpOp} (ho : OpR X (compareOp o) (R2of G.K fun a b M => R.of ((cmpV op a b M).map .bl) M)) (hm : behindInMarks o e2 = false) (ha : PE X e1 (TEx G Wx cf c1)) (hb : PE X e2 (TEx G Wx cf c2)) : PT X (.Compare e1 [o] [e2] pos) (TTx G Wx cf (.cmp op c1 c2)) := by
  refine pt_weak (pt_cmpR ho ha hb hm) fun s H Q h => ?_
  obtain ⟨T, σ, M, rfl, rm, rs, h⟩ := h
  simp only [evB, evE, bind_assoc] at h
  refine ⟨T, σ, M, rfl, rm, rs, h.bind XW.mono fun w M1 v T1 e1 rm1 i1 h1 => ?_⟩
  refine ⟨T1, σ, M1, rfl, rm1, rs.ext e1, h1.bind XW.mono fun w2 M2 v2 T2 e2 rm2 i2 h2 => ?_⟩
  refine ⟨T2, w, w2, M2, rfl, rm2, i1.ext e2, i2, ?_⟩
  cases q : cmpV op w w2 M2 with
  | none => rw [q] at h2; exact h2.elim
  | some b =>
    rw [q] at h2
    show Sat _ _ _ T2 (R.of (Option.map Vl.bl (cmpV op w w2 M2)) M2) _
    rw [q]
    intro v T3 e3 rm3 i3
    exact ⟨b, i3.bl_is, h2 b T3 e3 rm3 rfl⟩
/-- two comparisons in a row -/
theorem x_cmp2 {op op' : Cop} {o o' : CmpOp} (ho : OpR X (compareOp o) (R2of G.K fun a b M => R.of ((cmpV op a b M).map .bl) M)) (ho' : OpR X (compareOp o') (R2of G.K fun a b M => R.of ((cmpV op' a b M).map .bl) M)) (hm : lastMarks [o, o'] [e2, e3] = false)
    (ha : PE X e1 (TEx G Wx cf c1)) (hb : PE X e2 (TEx G Wx cf c2)) (hc : PE X e3 (TEx G Wx cf c3)) : PE X (.Compare e1 [o, o'] [e2, e3] pos) (TEx G Wx cf (.cmp2 op op' c1 c2 c3)) := by
  refine pe_weak (pe_chain ho ho' ha hb hc hm) fun s H Q h => ?_
  obtain ⟨T, σ, M, rfl, rm, rs, h⟩ := h
  simp only [evE] at h
  refine ⟨T, σ, M, rfl, rm, rs, h.bind XW.mono fun w M1 v T1 e1 rm1 i1 h1 => ?_⟩
  refine ⟨T1, σ, M1, rfl, rm1, rs.ext e1, h1.bind XW.mono fun w2 M2 v2 T2 e2 rm2 i2 h2 => ?_⟩
  refine ⟨T2, w, w2, M2, rfl, rm2, i1.ext e2, i2, ?_⟩
  cases q : cmpV op w w2 M2 with
  | none => rw [q] at h2; exact h2.elim
  | some b =>
    rw [q] at h2
    show Sat _ _ _ T2 (R.of (Option.map Vl.bl (cmpV op w w2 M2)) M2) _
    rw [q]
    intro v T3 e3 rm3 i3
    refine ⟨b, i3.bl_is, ?_⟩
    cases b with
    | false =>
      exact Sat.here (Sat.ext XW.mono e3 h2) rm3 (.bl false)
    | true =>
      refine ⟨T3, σ, M2, rfl, rm3, (rs.ext e1).ext (e2.trans e3), (Sat.ext XW.mono e3 h2).bind XW.mono fun w3 M3 v3 T4 e4 rm4 i4 h4 => ?_⟩
      exact ⟨T4, w2, w3, M3, rfl, rm4, i2.ext (e3.trans e4), i4, h4.calm calm_of⟩
theorem y_cmp2 {op op' : Cop} {o o' : CmpOp} (ho : OpR X (compareOp o) (R2of G.K fun a b M => R.of ((cmpV op a b M).map .bl) M)) (ho' : OpR X (compareOp o') (R2of G.K fun a b M => R.of ((cmpV op' a b M).map .bl) M)) (hm : lastMarks [o, o'] [e2, e3] = false)
    (ha : PE X e1 (TEx G Wx cf c1)) (hb : PE X e2 (TEx G Wx cf c2)) (hc : PE X e3 (TEx G Wx cf c3)) : PT X (.Compare e1 [o, o'] [e2, e3] pos) (TTx G Wx cf (.cmp2 op op' c1 c2 c3)) := by
  refine pt_weak (pt_chain ho ho' ha hb hc hm) fun s H Q h => ?_
  obtain ⟨T, σ, M, rfl, rm, rs, h⟩ := h
  simp only [evB, evE, bind_assoc] at h
  refine ⟨T, σ, M, rfl, rm, rs, h.bind XW.mono fun w M1 v T1 e1 rm1 i1 h1 => ?_⟩
  refine ⟨T1, σ, M1, rfl, rm1, rs.ext e1, h1.bind XW.mono fun w2 M2 v2 T2 e2 rm2 i2 h2 => ?_⟩
  refine ⟨T2, w, w2, M2, rfl, rm2, i1.ext e2, i2, ?_⟩
  cases q : cmpV op w w2 M2 with
  | none => rw [q] at h2; exact h2.elim
  | some b =>
    rw [q] at h2
    show Sat _ _ _ T2 (R.of (Option.map Vl.bl (cmpV op w w2 M2)) M2) _
    rw [q]
    intro v T3 e3 rm3 i3
    refine ⟨b, i3.bl_is, ?_⟩
    cases b with
    | false => exact ⟨false, rfl, Sat.here (Sat.ext XW.mono e3 h2) rm3 rfl⟩
    | true =>
      simp only [bind_assoc] at h2
      refine ⟨T3, σ, M2, rfl, rm3, (rs.ext e1).ext (e2.trans e3), (Sat.ext XW.mono e3 h2).bind XW.mono fun w3 M3 v3 T4 e4 rm4 i4 h4 => ?_⟩
      refine ⟨T4, w2, w3, M3, rfl, rm4, i2.ext (e3.trans e4), i4, ?_⟩
      cases q3 : cmpV op' w2 w3 M3 with
      | none => rw [q3] at h4; exact h4.elim
      | some b =>
        rw [q3] at h4
        show Sat _ _ _ T4 (R.of (Option.map Vl.bl (cmpV op' w2 w3 M3)) M3) _
        rw [q3]
        intro v T5 e5 rm5 i5
        exact ⟨b, i5.bl_is, h4 b T5 e5 rm5 rfl⟩

/-! ### truth -/
theorem tru_is {K : PySem.W.Frag} {T : Ws} {M : Mm} {v : V} {w : Vl} {b : Bool} (rm : RelM K T M) (h : IsV K T v w) (e : tru M w = some b) : TruV K v T.H b := by
  unfold tru at e
  split at e <;> rename_i e1
  · cases e
    have := rd_non rm h e1
    subst this
    rfl
  · cases e
    have := rd_bl rm h e1
    subst this
    rfl
  · cases e
    have := rd_int rm h e1
    subst this
    rfl
  · have := rd_str rm h e1
    subst this
    split at e
    · rename_i hl
      cases e
      exact ⟨hl, rfl⟩
    · cases e
  · cases e
    obtain ⟨a, ys, rfl, hz, hy, _⟩ := rd_tup rm h e1
    refine .inr (.inl ⟨ys, hz.sq, ?_⟩)
    cases hy <;> rfl
  · cases e
    obtain ⟨a, ys, rfl, hz, hy⟩ := rd_lst rm h e1
    refine .inl ⟨ys, SqL.of hz, ?_⟩
    cases hy <;> rfl
  · cases e
/-- a plain expression as a test -/
theorem y_val (ha : PE X e1 (TEx G Wx cf c1)) (hK : G.K = X.K) (he : ∀ whole, isTrue e1 X.env whole = (do let v ← whole; standAt e1.pos; holding [v] (truthy v))) : PT X e1 (TTx G Wx cf c1) := by
  refine pt_weak (pt_truth ha he) fun s H Q h => ?_
  obtain ⟨T, σ, M, rfl, rm, rs, h⟩ := h
  simp only [evB] at h
  refine ⟨T, σ, M, rfl, rm, rs, h.bind XW.mono fun w M1 v T1 e1 rm1 i1 h1 => ?_⟩
  cases q : tru M1 w with
  | none => rw [q] at h1; exact h1.elim
  | some b =>
    rw [q] at h1
    exact ⟨b, by rw [← hK]; exact tru_is rm1 i1 q, h1.here rm1 rfl⟩
theorem x_not (ha : PT X e1 (TTx G Wx cf c1)) (hp : ∀ t : TT, PT X (.UnaryOp .Not e1 pos) t → ∀ (k : TE), (∀ s H Q, k s H Q → t s H fun b H1 => Q (.bl b) H1) → PE X (.UnaryOp .Not e1 pos) k) : PE X (.UnaryOp .Not e1 pos) (TEx G Wx cf (.not c1)) := by
  refine hp _ (pt_not ha) _ fun s H Q h => ?_
  obtain ⟨T, σ, M, rfl, rm, rs, h⟩ := h
  simp only [evE] at h
  refine ⟨T, σ, M, rfl, rm, rs, ?_⟩
  unfold evB
  cases q : evE G.kl cf c1 σ M with
  | ok w M1 =>
    rw [q] at h
    simp only [R.bind_ok] at h ⊢
    cases q2 : tru M1 w with
    | none => rw [q2] at h; exact h.elim
    | some b =>
      rw [q2] at h
      intro b' T1 e1 rm1 i1
      have i1' : b' = b := i1
      subst i1'
      exact h _ T1 e1 rm1 (.bl _)
  | exc a b d => rw [q] at h; exact h
  | bad => rw [q] at h; exact h
/-- not, by the value's truth -/
theorem x_notV (ha : PE X e1 (TEx G Wx cf c1)) (hK : G.K = X.K) : PE X (.UnaryOp .Not e1 pos) (TEx G Wx cf (.not c1)) := by
  refine pe_weak (pe_notT ha) fun s H Q h => ?_
  obtain ⟨T, σ, M, rfl, rm, rs, h⟩ := h
  simp only [evE] at h
  refine ⟨T, σ, M, rfl, rm, rs, h.bind XW.mono fun w M1 v T1 e1 rm1 i1 h1 => ?_⟩
  cases q : tru M1 w with
  | none => rw [q] at h1; exact h1.elim
  | some b =>
    rw [q] at h1
    exact ⟨b, by rw [← hK]; exact tru_is rm1 i1 q, h1.here rm1 (.bl _)⟩
theorem y_not (ha : PT X e1 (TTx G Wx cf c1)) : PT X (.UnaryOp .Not e1 pos) (TTx G Wx cf (.not c1)) := by
  refine pt_weak (pt_not ha) fun s H Q h => ?_
  obtain ⟨T, σ, M, rfl, rm, rs, h⟩ := h
  simp only [evB, evE] at h
  refine ⟨T, σ, M, rfl, rm, rs, ?_⟩
  unfold evB
  cases q : evE G.kl cf c1 σ M with
  | ok w M1 =>
    rw [q] at h
    simp only [R.bind_ok] at h ⊢
    cases q2 : tru M1 w with
    | none => rw [q2] at h; exact h.elim
    | some b =>
      rw [q2] at h
      intro b' T1 e1 rm1 i1
      have i1' : b' = b := i1
      subst i1'
      exact h _ T1 e1 rm1 rfl
  | exc a b d => rw [q] at h; exact h
  | bad => rw [q] at h; exact h
/-- and, or, by truth -/
theorem y_one {op : BoolOp} {a : Expr} (hop : op = .And ∨ op = .Or) (ha : PT X e1 (TTx G Wx cf c1)) : PW X (.BoolOp op [e1] pos) (TTx G Wx cf c1) := by
  rcases hop with h | h
  · subst h; exact pw_and1 ha
  · subst h; exact pw_or1 ha
theorem y_and {r : Expr} {rest : List Expr} (ha : PT X e1 (TTx G Wx cf c1)) (hb : PW X (.BoolOp .And (r :: rest) pos) (TTx G Wx cf c2)) : PW X (.BoolOp .And (e1 :: r :: rest) pos) (TTx G Wx cf (.and c1 c2)) := by
  refine pw_weak (pw_and ha hb) fun s H Q h => ?_
  obtain ⟨T, σ, M, rfl, rm, rs, h⟩ := h
  simp only [evB, evE] at h
  refine ⟨T, σ, M, rfl, rm, rs, ?_⟩
  unfold evB
  cases q : evE G.kl cf c1 σ M with
  | ok w M1 =>
    rw [q] at h
    simp only [R.bind_ok] at h ⊢
    cases q2 : tru M1 w with
    | none => rw [q2] at h; exact h.elim
    | some b =>
      rw [q2] at h
      intro b' T1 e1 rm1 i1
      have i1' : b' = b := i1
      subst i1'
      cases b' with
      | true => exact ⟨T1, σ, M1, rfl, rm1, rs.ext e1, Sat.ext XW.mono e1 h⟩
      | false =>
        simp only [R.bind_ok, q2] at h
        exact h false T1 e1 rm1 rfl
  | exc a b d => rw [q] at h; exact h
  | bad => rw [q] at h; exact h
theorem y_or {r : Expr} {rest : List Expr} (ha : PT X e1 (TTx G Wx cf c1)) (hb : PW X (.BoolOp .Or (r :: rest) pos) (TTx G Wx cf c2)) : PW X (.BoolOp .Or (e1 :: r :: rest) pos) (TTx G Wx cf (.or c1 c2)) := by
  refine pw_weak (pw_or ha hb) fun s H Q h => ?_
  obtain ⟨T, σ, M, rfl, rm, rs, h⟩ := h
  simp only [evB, evE] at h
  refine ⟨T, σ, M, rfl, rm, rs, ?_⟩
  unfold evB
  cases q : evE G.kl cf c1 σ M with
  | ok w M1 =>
    rw [q] at h
    simp only [R.bind_ok] at h ⊢
    cases q2 : tru M1 w with
    | none => rw [q2] at h; exact h.elim
    | some b =>
      rw [q2] at h
      intro b' T1 e1 rm1 i1
      have i1' : b' = b := i1
      subst i1'
      cases b' with
      | false => exact ⟨T1, σ, M1, rfl, rm1, rs.ext e1, Sat.ext XW.mono e1 h⟩
      | true =>
        simp only [R.bind_ok, q2] at h
        exact h true T1 e1 rm1 rfl
  | exc a b d => rw [q] at h; exact h
  | bad => rw [q] at h; exact h
theorem x_one {op : BoolOp} (ha : PE X e1 (TEx G Wx cf c1)) : PE X (.BoolOp op [e1] pos) (TEx G Wx cf c1) := pe_one ha
theorem x_and {r : Expr} {rest : List Expr} (hK : G.K = X.K) (ha : PE X e1 (TEx G Wx cf c1)) (hb : PE X (.BoolOp .And (r :: rest) pos) (TEx G Wx cf c2)) : PE X (.BoolOp .And (e1 :: r :: rest) pos) (TEx G Wx cf (.and c1 c2)) := by
  refine pe_weak (pe_andT ha hb) fun s H Q h => ?_
  obtain ⟨T, σ, M, rfl, rm, rs, h⟩ := h
  simp only [evE] at h
  refine ⟨T, σ, M, rfl, rm, rs, h.bind XW.mono fun w M1 v T1 e1 rm1 i1 h1 => ?_⟩
  cases q : tru M1 w with
  | none => rw [q] at h1; exact h1.elim
  | some b =>
    rw [q] at h1
    refine ⟨b, by rw [← hK]; exact tru_is rm1 i1 q, ?_⟩
    cases b with
    | true => exact ⟨T1, σ, M1, rfl, rm1, rs.ext e1, h1⟩
    | false => exact h1.here rm1 i1
theorem x_or {r : Expr} {rest : List Expr} (hK : G.K = X.K) (ha : PE X e1 (TEx G Wx cf c1)) (hb : PE X (.BoolOp .Or (r :: rest) pos) (TEx G Wx cf c2)) : PE X (.BoolOp .Or (e1 :: r :: rest) pos) (TEx G Wx cf (.or c1 c2)) := by
  refine pe_weak (pe_orT ha hb) fun s H Q h => ?_
  obtain ⟨T, σ, M, rfl, rm, rs, h⟩ := h
  simp only [evE] at h
  refine ⟨T, σ, M, rfl, rm, rs, h.bind XW.mono fun w M1 v T1 e1 rm1 i1 h1 => ?_⟩
  cases q : tru M1 w with
  | none => rw [q] at h1; exact h1.elim
  | some b =>
    rw [q] at h1
    refine ⟨b, by rw [← hK]; exact tru_is rm1 i1 q, ?_⟩
    cases b with
    | false => exact ⟨T1, σ, M1, rfl, rm1, rs.ext e1, h1⟩
    | true => exact h1.here rm1 i1
theorem x_ite (hc : PT X e1 (TTx G Wx cf c1)) (ha : PE X e2 (TEx G Wx cf c2)) (hb : PE X e3 (TEx G Wx cf c3)) : PE X (.IfExp e1 e2 e3 pos) (TEx G Wx cf (.ite c1 c2 c3)) := by
  refine pe_weak (pe_ifExp hc ha hb) fun s H Q h => ?_
  obtain ⟨T, σ, M, rfl, rm, rs, h⟩ := h
  simp only [evE] at h
  refine ⟨T, σ, M, rfl, rm, rs, ?_⟩
  unfold evB
  cases q : evE G.kl cf c1 σ M with
  | ok w M1 =>
    rw [q] at h
    simp only [R.bind_ok] at h ⊢
    cases q2 : tru M1 w with
    | none => rw [q2] at h; exact h.elim
    | some b =>
      rw [q2] at h
      intro b' T1 e1 rm1 i1
      have i1' : b' = b := i1
      subst i1'
      cases b' with
      | true => exact ⟨T1, σ, M1, rfl, rm1, rs.ext e1, Sat.ext XW.mono e1 h⟩
      | false => exact ⟨T1, σ, M1, rfl, rm1, rs.ext e1, Sat.ext XW.mono e1 h⟩
  | exc a b d => rw [q] at h; exact h
  | bad => rw [q] at h; exact h
theorem x_neg (ha : PE X e1 (TEx G Wx cf c1)) : PE X (.UnaryOp .USub e1 pos) (TEx G Wx cf (.neg c1)) := by
  refine pe_weak (pe_un un_neg ha) fun s H Q h => ?_
  obtain ⟨T, σ, M, rfl, rm, rs, h⟩ := h
  simp only [evE] at h
  refine ⟨T, σ, M, rfl, rm, rs, h.bind XW.mono fun w M1 v T1 e1 rm1 i1 h1 => ?_⟩
  cases w with
  | int i => exact ⟨i, i1.int_is, h1.here rm1 (.int _)⟩
  | _ => exact h1.elim

/-! ### subscripts -/
theorem place_ix {n : Nat} {i : Int} : place n i = ixN n i := rfl
theorem place_at {T : Ws} {K : PySem.W.Frag} {l : List Vl} {xs : List V} {k : Int} {w : Vl} (h : IsVs K T xs l) (e : ((place l.length k).bind fun j => l[j]?) = some w) : ∃ v, atI xs k = some v ∧ IsV K T v w := by
  cases q : place l.length k with
  | none => rw [q] at e; cases e
  | some j =>
    rw [q] at e
    obtain ⟨v, h1, h2⟩ := h.get e
    exact ⟨v, by unfold atI; rw [h.length]; rw [place_ix] at q; rw [q]; exact h1, h2⟩
theorem kv_look {T : Ws} {K : PySem.W.Frag} {k : Key} : ∀ {kv : List (Key × V)} {kvs : List (Vl × Vl)} {w : Vl}, Paired (fun (p : Key × V) (q : Vl × Vl) => keyOf q.1 = some p.1 ∧ IsV K T p.2 q.2) kv kvs → lookK k kvs = some w → ∃ v, (kv.find? fun p => decide (p.1 = k)).map (·.2) = some v ∧ IsV K T v w
  | _, _, _, .nil, h => by cases h
  | _, (a, b) :: r, w, .cons (a := p) hp hr, h => by
    unfold lookK at h
    by_cases e : keyOf a = some k
    · rw [if_pos e] at h
      cases h
      have ek : p.1 = k := by
        have := hp.1
        rw [e] at this
        exact (Option.some.inj this).symm
      exact ⟨p.2, by simp [ek], hp.2⟩
    · rw [if_neg e] at h
      obtain ⟨v, h1, h2⟩ := kv_look hr h
      have ek : ¬ p.1 = k := fun z => e (by rw [hp.1, z])
      exact ⟨v, by simp [List.find?_cons, ek]; simpa using h1, h2⟩
end
end Sg
end

section
set_option Elab.async false
set_option linter.all false
set_option maxRecDepth 100000
set_option maxHeartbeats 1000000
/-! Sg, part 6: what is walked. -/
namespace Sg
open PySem PySem.Spec PyProof.Rows L2

/-! ### enumerate over a tuple -/
def tupIt (t : Addr) : Obj := { cls := .type "tuple_iterator", data := .fields #[.ref t, .int 0 0] }
def enumOb (i : Addr) : Obj := { cls := .type "enumerate", data := .fields #[.none, .bool false, .ref i, rawInt 0, .none, .none] }
theorem enumT_new (t : Addr) (items : Array Value) : Meets (Builtin.«enumerate.__new__» ⟨[.type "enumerate", .ref t], []⟩) (fun _ K s => s.heap.IsTuple t items ∧
    K (.ok (.ret (.ref (s.heap.push (tupIt t)).objs.size))) { s with heap := (s.heap.push (tupIt t)).push (enumOb s.heap.objs.size) }) :=
  .of_wp fun prog w A K s h => by
    obtain ⟨hp, gn, dr, tks, oss⟩ := s
    obtain ⟨ht, h⟩ := h
    have sube := sub_enumerate
    have it1 : ∀ {B : Around} {E : Value → Shared → Prop} {Q : Value → Shared → Prop}, Q (.ref hp.objs.size) ⟨hp.push (tupIt t), gn, dr, tks, oss⟩ → wpAny (model prog w) B (pyIter (.ref t)) Q E ⟨hp, gn, dr, tks, oss⟩ :=
      fun q => (begins_tuple t items).iter prog w _ _ ⟨hp, gn, dr, tks, oss⟩ _ ht q
    wp_walk using it1
    refine wpAny_stack_any fun stk => wpAny_pure ?_
    split
    · rename_i cc _ _ _ _ _
      cases (cc == Value.type "enumerate") <;> (wp_walk using it1; exact ⟨_, rfl, h⟩)
    · (wp_walk using it1; exact ⟨_, rfl, h⟩)
theorem enumT_call {prog : Program} {w : World} {A : Around} {E : Value → Shared → Prop} {s : Shared} {t : Addr} {items : Array Value} {Q : Value → Shared → Prop} (ht : s.heap.IsTuple t items)
    (h : ∀ h', IsEnum h' (s.heap.objs.size + 1) s.heap.objs.size 0 .none → h'.IsTupleIter s.heap.objs.size t 0 → (∀ b o, s.heap.get? b = some o → h'.get? b = some o) → Q (.ref (s.heap.objs.size + 1)) { s with heap := h' }) :
    wpAny (model prog w) A (call (.type "enumerate") [.ref t]) Q E s := by
  refine callType_new F.called_enumerate (by decide) (F.typeCall_enumerate_1 _) (F.newCall_enumerate_1 _) (fun ob => F.args_object_init_2 ob _) F.entry_enumerate_new (enumT_new t items) ⟨ht, ?_⟩
  have sz : (s.heap.push (tupIt t)).objs.size = s.heap.objs.size + 1 := Heap.size_push ..
  show _ ∧ _
  rw [sz]
  have he : IsEnum ((s.heap.push (tupIt t)).push (enumOb s.heap.objs.size)) (s.heap.objs.size + 1) s.heap.objs.size 0 .none := by
    have q := Heap.get?_push_size (s.heap.push (tupIt t)) (o := enumOb s.heap.objs.size) rfl
    rw [sz] at q
    exact q
  exact ⟨⟨_, he, rfl⟩, h _ he ⟨_, Heap.get?_push_of_some _ (Heap.get?_push_size _ rfl), rfl, rfl⟩ fun b o q => Heap.get?_push_of_some _ (Heap.get?_push_of_some _ q)⟩
/-- the tuple at a, each item in a new pair with its place -/
def ItE (K : PySem.W.Frag) (a : Addr) : It :=
  ⟨fun i H => ∃ (xs : List V) (x : V), SqT K H a xs ∧ xs[i]? = some x, fun i H v H' => ∃ T x, v = .ref T ∧ H T = none ∧ H' = upd H T (.tup [.int (i : Nat), x]) ∧ ∀ xs, SqT K H a xs → xs[i]? = some x,
    fun i H => ∃ xs : List V, SqT K H a xs ∧ xs.length = i⟩
theorem turn_enumT {P : Program} {w : World} {K : PySem.W.Frag} {elts : List Expr} {kk : Nat} {tpos : Pos} (a e it : Addr) :
    Turn P w K (.Tuple elts kk tpos) (ItE K a) [e, it] e (fun i h => (∃ old, IsEnum h e it ((i : Nat) : Int) old) ∧ h.IsTupleIter it a i ∧ e ≠ it ∧ a ≠ it ∧ e ≠ a) where
  mem := by simp
  obj := fun i h st b hb => by
    obtain ⟨⟨old, he⟩, ⟨o, ho, hc, hd⟩, _⟩ := st
    rcases (show b = e ∨ b = it by simpa using hb) with z | z
    · subst z; exact ⟨_, he, fun v q => nomatch q⟩
    · subst z; exact ⟨o, ho, fun v q => by rw [hd] at q; cases q⟩
  keep := fun i h h' st k => by
    obtain ⟨⟨old, he⟩, ⟨o, ho, hc, hd⟩, h1, h2⟩ := st
    exact ⟨⟨old, k e (by simp) _ he⟩, ⟨o, k it (by simp) _ ho, hc, hd⟩, h1, h2⟩
  item := by
    intro X hP hw hK hc i pins s σ H E I hf st hg
    subst hP hw hK
    obtain ⟨⟨old, he⟩, hit, hne, hai, hea⟩ := st
    obtain ⟨xs, x, hq, hx⟩ := hg
    obtain ⟨its, rv, pt, _⟩ := I.tuple hq
    obtain ⟨u, hu, ru⟩ := rv.get hx
    have hel : e < s.heap.objs.size := Heap.lt_size he
    have hil : it < s.heap.objs.size := by obtain ⟨_, q, _⟩ := hit; exact Heap.lt_size q
    have ult : i < its.toArray.size := by
      have := (List.getElem?_eq_some_iff.mp hu).1
      simpa using this
    have Dr := Draws.tuple (prog := X.prog) (w := X.w) (A := X.A.in1) (I.ok.hd hc) it a hai its.toArray
    refine wpAny_pyNext_enum_itemD Dr he ⟨hit, show s.heap.IsTuple a its.toArray from pt⟩ ult hne (by simp; exact ⟨hne, hea⟩) fun y h' tk hy ho hst' hT hsz hk => ?_
    have ey : y = u := by
      have q1 : its.toArray[i]? = some y := hy
      have q2 : its.toArray[i]? = some u := by simpa using hu
      rw [q1] at q2
      exact Option.some.inj q2
    subst ey
    obtain ⟨hit', _⟩ := hst'
    refine ⟨_, rfl, wpAny_letOwnedTupleGo_enum (s := { s with heap := h', toks := tk + 1 }) ho fun h'' he' sb => ?_⟩
    have hT2 : h''.get? s.heap.objs.size = some { cls := .type "tuple", data := .seq #[.int i tk, y] } := (sb.2 _ (Nat.ne_of_gt hel)).trans hT
    have new : ObjOk X.prog X.w (upd H s.heap.objs.size (.tup [.int (i : Nat), x])) h'' s.heap.objs.size (.tup [.int (i : Nat), x]) :=
      ⟨(by show 2 ≤ sizeLine; decide), [.int i tk, y], .cons ⟨_, rfl⟩ (.cons ru .nil), ⟨_, hT2, rfl, _, rfl⟩⟩
    have nch : ∀ b : Addr, b ∉ [e, it] → b ≠ e ∧ b ≠ it := fun b hb => ⟨fun z => hb (by simp [z]), fun z => hb (by simp [z])⟩
    have I1 : Inv X pins σ (upd H s.heap.objs.size (.tup [.int (i : Nat), x])) { s with heap := h'', toks := tk + 1 } :=
      I.turnedNew (ch := [e, it]) (fun b ob hb q => (sb.2 b (nch b hb).1).trans (hk b ob (nch b hb).1 (nch b hb).2 q)) hf (Nat.le_refl _) new
    have hfr := I.hok.fresh (Nat.le_refl s.heap.objs.size)
    refine ⟨.ref s.heap.objs.size, _, I1, rfl, ⟨_, x, rfl, hfr, rfl, fun ys hy => by rw [I.tuple_inj hy hq]; exact hx⟩, ⟨⟨y, ?_⟩, ?_, hne, hai, hea⟩, fun b hb => ?_⟩
    · rw [show ((i + 1 : Nat) : Int) = (i : Int) + 1 by omega]; exact he'
    · obtain ⟨o2, ho2, hc2, hd2⟩ := hit'
      exact ⟨o2, (sb.2 it (Ne.symm hne)).trans ho2, hc2, hd2⟩
    · have hb' : b < s.heap.objs.size := by
        rcases (show b = e ∨ b = it by simpa using hb) with z | z <;> (rw [z]; assumption)
      rw [upd_ne (Nat.ne_of_lt hb')]
      exact (hf b hb).1
  done := by
    intro X hP hw hK hc i pins s σ H E I hf st hg
    subst hP hw hK
    obtain ⟨⟨old, he⟩, hit, hne, hai, hea⟩ := st
    obtain ⟨xs, hq, hx⟩ := hg
    obtain ⟨its, rv, pt, _⟩ := I.tuple hq
    obtain ⟨f0, f1, f2, f3, f4, f5⟩ := hf it (by simp)
    have hl := rv.length
    have Dr := Draws.tuple (prog := X.prog) (w := X.w) (A := X.A.in1) (I.ok.hd hc) it a hai its.toArray
    have ei : i = its.toArray.size := by simp; omega
    subst ei
    exact wpAny_pyNext_enum_endD Dr he ⟨hit, show s.heap.IsTuple a its.toArray from pt⟩ fun h' eb => ⟨rfl, I.turned (t' := s.toks) (fun b o hb e => eb b o hb e) f0 f1 f3 f4 f5⟩
  self := fun A i s Q E st h => by
    obtain ⟨⟨_, he⟩, _⟩ := st
    exact wpAny_pyIter_enum he h
end Sg
end

section
set_option Elab.async false
set_option linter.all false
set_option maxRecDepth 100000
set_option maxHeartbeats 1000000
/-! Sg, part 7: the walks over values. -/
namespace Sg
open PySem PySem.Spec PyProof.Rows L2

section
variable {X : Cx} {tg : Expr}
/-- a list or a tuple -/
def iSeqA (K : PySem.W.Frag) (tl : TE) : TI := fun σ H R => tl σ H fun x H1 => ∃ a xs, x = .ref a ∧ ((SqL K H1 a xs ∧ R (Itl K a) H1) ∨ (SqT K H1 a xs ∧ R (Itt K a) H1))
theorem pi_seqA {l : Expr} {tl : TE} (hl : PE X l tl) : PI X tg l (iSeqA X.K tl) := by
  refine ⟨fun pins s σ H R I h => ?_⟩
  refine thn (hl.run pins s σ H _ I h) fun v s1 ⟨x, H1, I1, r1, q1⟩ => ?_
  obtain ⟨a, xs, e, q⟩ := q1
  subst e
  cases r1
  have fr : ∀ b ∈ [s1.heap.objs.size], FpOk X pins H1 b := fun b hb => by
    have e : b = s1.heap.objs.size := by simpa using hb
    subst e
    exact I1.fpOk (Nat.le_refl _) (I1.hok.fresh (Nat.le_refl _))
  rcases q with ⟨hq, q⟩ | ⟨hq, q⟩
  · obtain ⟨its, rv, p, hz⟩ := I1.list hq
    refine wpAny_pyIter_list p.isList ?_
    exact ⟨s1.heap.objs.size, [s1.heap.objs.size], _, _, H1, rfl, I1.kept (t' := s1.toks) fun b o e => Heap.get?_push_of_some _ e, turn_list a _, ⟨_, Heap.get?_push_size _ rfl, rfl, rfl⟩, fr, q⟩
  · obtain ⟨its, rv, p, hz⟩ := I1.tuple hq
    refine wpAny_pyIter_tuple (show s1.heap.IsTuple a its.toArray from p) ?_
    exact ⟨s1.heap.objs.size, [s1.heap.objs.size], _, _, H1, rfl, I1.kept (t' := s1.toks) fun b o e => Heap.get?_push_of_some _ e, turn_tuple a _, ⟨_, Heap.get?_push_size _ rfl, rfl, rfl⟩, fr, q⟩
def iEnumA (K : PySem.W.Frag) (ta : TA) : TI := fun σ H R => ta σ H fun vs H1 => ∃ a xs, vs = [.ref a] ∧ ((SqL K H1 a xs ∧ R (Ite K a) H1) ∨ (SqT K H1 a xs ∧ R (ItE K a) H1))
theorem pi_enumA {e : Expr} {ta : TA} {p pos tpos : Pos} {elts : List Expr} {kk : Nat} (hg : Gl X "enumerate") (hm : X.mg "enumerate" = none) (ha : PA X [e] ta) (hs : starEach [e] X.env = [(false, eval e X.env)]) :
    PI X (.Tuple elts kk tpos) (.Call (.Name "enumerate" p) [e] [] pos) (iEnumA X.K ta) := by
  refine ⟨fun pins s σ H R I h => ?_⟩
  refine Call_ (ld_blt I hg hm boot_enumerate (PyProof.Rows.callWith_type1 (thn (ha.run pos pins s σ H _ I h) fun us s1 ⟨vs, H1, I1, r1, q1⟩ => ?_) hs rfl))
  obtain ⟨a, xs, ex, q⟩ := q1
  subst ex
  cases r1 with
  | cons r rr =>
    cases rr
    cases r
    have fr : ∀ b ∈ [s1.heap.objs.size + 1, s1.heap.objs.size], FpOk X pins H1 b := fun b hb => by
      have hle : s1.heap.objs.size ≤ b := by
        rcases (show b = s1.heap.objs.size + 1 ∨ b = s1.heap.objs.size by simpa using hb) with z | z
        · rw [z]; exact Nat.le_add_right _ _
        · rw [z]; exact Nat.le_refl _
      exact I1.fpOk hle (I1.hok.fresh hle)
    rcases q with ⟨hq, q⟩ | ⟨hq, q⟩
    · obtain ⟨its, rv, p', hz⟩ := I1.list hq
      refine call_enumerate_list p'.isList fun h' he hit hsz hk => wpAny_pyIter_enum he ?_
      have I2 : Inv X pins σ H1 { s1 with heap := h' } := I1.kept (t' := s1.toks) hk
      exact ⟨s1.heap.objs.size + 1, [s1.heap.objs.size + 1, s1.heap.objs.size], _, _, H1, rfl, I2, turn_enum a (s1.heap.objs.size + 1) s1.heap.objs.size, ⟨⟨.none, he⟩, hit, Nat.succ_ne_self _⟩, fr, q⟩
    · obtain ⟨its, rv, p', hz⟩ := I1.tuple hq
      obtain ⟨o1, ho1, _⟩ := id p'
      have hal : a < s1.heap.objs.size := Heap.lt_size ho1
      refine enumT_call (show s1.heap.IsTuple a its.toArray from p') fun h' he hit hk => wpAny_pyIter_enum he ?_
      have I2 : Inv X pins σ H1 { s1 with heap := h' } := I1.kept (t' := s1.toks) hk
      exact ⟨s1.heap.objs.size + 1, [s1.heap.objs.size + 1, s1.heap.objs.size], _, _, H1, rfl, I2, turn_enumT a (s1.heap.objs.size + 1) s1.heap.objs.size, ⟨⟨.none, he⟩, hit, Nat.succ_ne_self _, Nat.ne_of_lt hal, Nat.ne_of_gt (Nat.lt_succ_of_lt hal)⟩, fr, q⟩
end

/-! ### rows, as long as the guards hold -/
section
variable {K : PySem.W.Frag}
def RowL (K : PySem.W.Frag) (T0 : Ws) (g : Gd) (a : Addr) (l : List Vl) : Prop := ∀ T M, Ext T0 T → RelM K T M → gdOk M g → ∃ xs, SqL K T.H a xs ∧ IsVs K T xs l
def RowT (K : PySem.W.Frag) (T0 : Ws) (g : Gd) (a : Addr) (l : List Vl) : Prop := ∀ T M, Ext T0 T → RelM K T M → gdOk M g → ∃ xs, SqT K T.H a xs ∧ IsVs K T xs l
structure ItOk (K : PySem.W.Frag) (J : It) (T0 : Ws) (g : Gd) (l : List Vl) : Prop where
  go : ∀ i T M w, Ext T0 T → RelM K T M → gdOk M g → l[i]? = some w → J.go i T.H
  yld : ∀ i T M w v H', Ext T0 T → RelM K T M → gdOk M g → l[i]? = some w → J.yld i T.H v H' → ∃ T', T'.H = H' ∧ Ext T T' ∧ RelM K T' M ∧ IsV K T' v w
  stop : ∀ T M, Ext T0 T → RelM K T M → gdOk M g → J.stop l.length T.H
theorem rowT {T : Ws} {a : Addr} {xs : List V} {l : List Vl} (h : FzT K T a xs) (i : IsVs K T xs l) : RowT K T [] a l := fun T1 M e rm _ => ⟨xs, (h.ext e).sq, i.ext e⟩
theorem rowL {T : Ws} {a : Addr} {xs : List V} {l : List Vl} (h : FzL T a xs) (i : IsVs K T xs l) : RowL K T [] a l := fun T1 M e rm _ => ⟨xs, (h.ext e).sq, i.ext e⟩
theorem rowR {T : Ws} {a : Addr} {n : Nat} {l : List Vl} (h : T.as[n]? = some a) : RowL K T [(n, l)] a l := fun T1 M e rm g => by
  obtain ⟨b, hb, _, xs, h1, h2⟩ := rm.get g.1
  rw [e.as h] at hb
  cases hb
  exact ⟨xs, SqL.of h1, h2⟩
theorem RowL.more {T : Ws} {a : Addr} {l : List Vl} {g g' : Gd} (h : RowL K T g a l) (k : ∀ M, gdOk M g' → gdOk M g) : RowL K T g' a l := fun T1 M e rm z => h T1 M e rm (k M z)
theorem it_l {T : Ws} {a : Addr} {l : List Vl} {g : Gd} (h : RowL K T g a l) : ItOk K (Itl K a) T g l where
  go := fun i T1 M w e rm z hw => by
    obtain ⟨xs, h1, h2⟩ := h T1 M e rm z
    obtain ⟨x, hx, _⟩ := h2.get hw
    exact ⟨xs, x, h1, hx⟩
  yld := fun i T1 M w v H' e rm z hw y => by
    obtain ⟨xs, h1, h2⟩ := h T1 M e rm z
    obtain ⟨x, hx, ix⟩ := h2.get hw
    obtain ⟨rfl, f⟩ := y
    have := f xs h1
    rw [hx] at this
    cases this
    exact ⟨T1, rfl, Ext.refl _, rm, ix⟩
  stop := fun T1 M e rm z => by
    obtain ⟨xs, h1, h2⟩ := h T1 M e rm z
    exact ⟨xs, h1, by rw [h2.length]; exact Nat.le_refl _⟩
theorem it_t {T : Ws} {a : Addr} {l : List Vl} {g : Gd} (h : RowT K T g a l) : ItOk K (Itt K a) T g l where
  go := fun i T1 M w e rm z hw => by
    obtain ⟨xs, h1, h2⟩ := h T1 M e rm z
    obtain ⟨x, hx, _⟩ := h2.get hw
    exact ⟨xs, x, h1, hx⟩
  yld := fun i T1 M w v H' e rm z hw y => by
    obtain ⟨xs, h1, h2⟩ := h T1 M e rm z
    obtain ⟨x, hx, ix⟩ := h2.get hw
    obtain ⟨rfl, f⟩ := y
    have := f xs h1
    rw [hx] at this
    cases this
    exact ⟨T1, rfl, Ext.refl _, rm, ix⟩
  stop := fun T1 M e rm z => by
    obtain ⟨xs, h1, h2⟩ := h T1 M e rm z
    exact ⟨xs, h1, by rw [h2.length]; exact Nat.le_refl _⟩
theorem enumV_get {l : List Vl} {i : Nat} {w : Vl} (h : (enumV l)[i]? = some w) : ∃ x, l[i]? = some x ∧ w = .tup [.int (i : Int), x] := by
  unfold enumV at h
  rw [List.getElem?_map, List.getElem?_zipIdx] at h
  cases q : l[i]? with
  | none => rw [q] at h; cases h
  | some x => rw [q] at h; cases h; exact ⟨x, rfl, by simp⟩
theorem enumV_len {l : List Vl} : (enumV l).length = l.length := by simp [enumV]
theorem pair_new {T : Ws} {M : Mm} {p : Addr} {x y : V} {u w : Vl} (rm : RelM K T M) (hp : T.H p = none) (hx : IsV K T x u) (hy : IsV K T y w) :
    ∃ T', T'.H = upd T.H p (.tup [x, y]) ∧ Ext T T' ∧ RelM K T' M ∧ IsV K T' (.ref p) (.tup [u, w]) := by
  obtain ⟨e2, rm2, np⟩ := fresh_fz rm hp (.tup [x, y])
  exact ⟨_, rfl, e2, rm2, .tup (.inl ⟨.inl upd_same, np⟩) (.cons (hx.ext e2) (.cons (hy.ext e2) .nil))⟩
theorem it_el {T : Ws} {a : Addr} {l : List Vl} {g : Gd} (h : RowL K T g a l) : ItOk K (Ite K a) T g (enumV l) where
  go := fun i T1 M w e rm z hw => by
    obtain ⟨xs, h1, h2⟩ := h T1 M e rm z
    obtain ⟨u, hu, _⟩ := enumV_get hw
    obtain ⟨x, hx, _⟩ := h2.get hu
    exact ⟨xs, x, h1, hx⟩
  yld := fun i T1 M w v H' e rm z hw y => by
    obtain ⟨xs, h1, h2⟩ := h T1 M e rm z
    obtain ⟨u, hu, rfl⟩ := enumV_get hw
    obtain ⟨x, hx, ix⟩ := h2.get hu
    obtain ⟨p, x', rfl, hp, rfl, f⟩ := y
    have := f xs h1
    rw [hx] at this
    cases this
    exact pair_new rm hp (.int _) ix
  stop := fun T1 M e rm z => by
    obtain ⟨xs, h1, h2⟩ := h T1 M e rm z
    exact ⟨xs, h1, by rw [h2.length, enumV_len]; exact Nat.le_refl _⟩
theorem it_et {T : Ws} {a : Addr} {l : List Vl} {g : Gd} (h : RowT K T g a l) : ItOk K (ItE K a) T g (enumV l) where
  go := fun i T1 M w e rm z hw => by
    obtain ⟨xs, h1, h2⟩ := h T1 M e rm z
    obtain ⟨u, hu, _⟩ := enumV_get hw
    obtain ⟨x, hx, _⟩ := h2.get hu
    exact ⟨xs, x, h1, hx⟩
  yld := fun i T1 M w v H' e rm z hw y => by
    obtain ⟨xs, h1, h2⟩ := h T1 M e rm z
    obtain ⟨u, hu, rfl⟩ := enumV_get hw
    obtain ⟨x, hx, ix⟩ := h2.get hu
    obtain ⟨p, x', rfl, hp, rfl, f⟩ := y
    have := f xs h1
    rw [hx] at this
    cases this
    exact pair_new rm hp (.int _) ix
  stop := fun T1 M e rm z => by
    obtain ⟨xs, h1, h2⟩ := h T1 M e rm z
    exact ⟨xs, h1, by rw [h2.length, enumV_len]⟩
theorem pairsV_get {l m : List Vl} {i : Nat} {w : Vl} (h : (pairsV l m)[i]? = some w) : ∃ x y, l[i]? = some x ∧ m[i]? = some y ∧ w = .tup [x, y] := by
  unfold pairsV at h
  rw [List.getElem?_map] at h
  cases q : (l.zip m)[i]? with
  | none => rw [q] at h; cases h
  | some p =>
    rw [q] at h
    cases h
    obtain ⟨h1, h2⟩ := List.getElem?_zip_eq_some.mp q
    exact ⟨p.1, p.2, h1, h2, rfl⟩
theorem pairsV_len {l m : List Vl} : l.length ≤ (pairsV l m).length ∨ m.length ≤ (pairsV l m).length := by
  simp [pairsV]
  omega
theorem it_zl {T : Ws} {a b : Addr} {l m : List Vl} {g : Gd} (h : RowL K T g a l) (h' : RowL K T g b m) : ItOk K (Itz K a b) T g (pairsV l m) where
  go := fun i T1 M w e rm z hw => by
    obtain ⟨xs, h1, h2⟩ := h T1 M e rm z
    obtain ⟨ys, h3, h4⟩ := h' T1 M e rm z
    obtain ⟨u, u', hu, hu', _⟩ := pairsV_get hw
    obtain ⟨x, hx, _⟩ := h2.get hu
    obtain ⟨y, hy, _⟩ := h4.get hu'
    exact ⟨xs, ys, x, y, h1, h3, hx, hy⟩
  yld := fun i T1 M w v H' e rm z hw y => by
    obtain ⟨xs, h1, h2⟩ := h T1 M e rm z
    obtain ⟨ys, h3, h4⟩ := h' T1 M e rm z
    obtain ⟨u, u', hu, hu', rfl⟩ := pairsV_get hw
    obtain ⟨x, hx, ix⟩ := h2.get hu
    obtain ⟨y0, hy, iy⟩ := h4.get hu'
    obtain ⟨p, x', y', rfl, hp, rfl, f, f'⟩ := y
    have e1 := f xs h1
    have e2 := f' ys h3
    rw [hx] at e1
    rw [hy] at e2
    cases e1; cases e2
    exact pair_new rm hp ix iy
  stop := fun T1 M e rm z => by
    obtain ⟨xs, h1, h2⟩ := h T1 M e rm z
    obtain ⟨ys, h3, h4⟩ := h' T1 M e rm z
    exact ⟨xs, ys, h1, h3, by rw [h2.length, h4.length]; exact pairsV_len⟩
theorem it_zt {T : Ws} {a b : Addr} {l m : List Vl} {g : Gd} (h : RowT K T g a l) (h' : RowT K T g b m) : ItOk K (RZ.ItzT K a b) T g (pairsV l m) where
  go := fun i T1 M w e rm z hw => by
    obtain ⟨xs, h1, h2⟩ := h T1 M e rm z
    obtain ⟨ys, h3, h4⟩ := h' T1 M e rm z
    obtain ⟨u, u', hu, hu', _⟩ := pairsV_get hw
    obtain ⟨x, hx, _⟩ := h2.get hu
    obtain ⟨y, hy, _⟩ := h4.get hu'
    exact ⟨xs, ys, x, y, h1, h3, hx, hy⟩
  yld := fun i T1 M w v H' e rm z hw y => by
    obtain ⟨xs, h1, h2⟩ := h T1 M e rm z
    obtain ⟨ys, h3, h4⟩ := h' T1 M e rm z
    obtain ⟨u, u', hu, hu', rfl⟩ := pairsV_get hw
    obtain ⟨x, hx, ix⟩ := h2.get hu
    obtain ⟨y0, hy, iy⟩ := h4.get hu'
    obtain ⟨p, x', y', rfl, hp, rfl, f, f'⟩ := y
    have e1 := f xs h1
    have e2 := f' ys h3
    rw [hx] at e1
    rw [hy] at e2
    cases e1; cases e2
    exact pair_new rm hp ix iy
  stop := fun T1 M e rm z => by
    obtain ⟨xs, h1, h2⟩ := h T1 M e rm z
    obtain ⟨ys, h3, h4⟩ := h' T1 M e rm z
    exact ⟨xs, ys, h1, h3, by rw [h2.length, h4.length]; exact pairsV_len⟩
theorem it_r {T : Ws} {lo hi : Int} : ItOk K (Itr lo (hi - lo).toNat) T [] (rngV lo hi) where
  go := fun i T1 M w e rm z hw => by
    have := (List.getElem?_eq_some_iff.mp hw).1
    show i < (hi - lo).toNat
    simpa [rngV] using this
  yld := fun i T1 M w v H' e rm z hw y => by
    obtain ⟨rfl, rfl⟩ := y
    have hl : i < (hi - lo).toNat := by
      have := (List.getElem?_eq_some_iff.mp hw).1
      simpa [rngV] using this
    have : w = .int (lo + (i : Int)) := by
      simp only [rngV, List.getElem?_map, List.getElem?_range hl] at hw
      exact (Option.some.inj hw).symm
    subst this
    exact ⟨T1, rfl, Ext.refl _, rm, .int _⟩
  stop := fun T1 M e rm z => by
    show (hi - lo).toNat ≤ (rngV lo hi).length
    simp only [rngV, List.length_map, List.length_range]
    exact Nat.le_refl _
end

/-! ### the readings -/
section
variable (G : Pg) (Wx : WX) (cf : CF)
def TIx (c : Sr) : TI := fun s H R => ∃ T σ M, T.H = H ∧ RelM G.K T M ∧ RelS G T s σ ∧ Sat G.K (fun T1 J (p : List Vl × Gd) => ItOk G.K J T1 p.2 p.1) (XW G Wx s) T (evSr G.kl cf c σ M) R
end
theorem pi_weak {X : Cx} {tg e : Expr} {t t' : TI} (h : PI X tg e t) (k : ∀ s H Q, t' s H Q → t s H Q) : PI X tg e t' := ⟨fun pins s σ H Q I q => h.run pins s σ H Q I (k _ _ _ q)⟩
section
variable {G : Pg} {Wx : WX} {cf : CF} {X : Cx} {e e1 e2 tg : Expr} {c c1 c2 : E} {pos p : Pos}
theorem cell_row {T : Ws} {v : V} {n : Nat} {M : Mm} {l : List Vl} (rm : RelM G.K T M) (i : IsV G.K T v (.ref n)) (q : cellL M n = some l) : ∃ a xs, v = .ref a ∧ SqL G.K T.H a xs ∧ RowL G.K T [(n, l)] a l := by
  cases i with
  | @ref a _ ha =>
    have hm : M[n]? = some (.lst l) := by
      unfold cellL at q
      split at q
      · rename_i l' hq; cases q; exact hq
      · cases q
    obtain ⟨xs, h1, h2⟩ := rowR ha T M (Ext.refl T) rm (show gdOk M [(n, l)] from ⟨hm, trivial⟩)
    exact ⟨a, xs, rfl, h1, rowR ha⟩
theorem i_val (hK : G.K = X.K) (ha : PE X e (TEx G Wx cf c)) : PI X tg e (TIx G Wx cf (.val c)) := by
  refine pi_weak (pi_seqA ha) fun s H R h => ?_
  obtain ⟨T, σ, M, rfl, rm, rs, h⟩ := h
  simp only [evSr] at h
  refine ⟨T, σ, M, rfl, rm, rs, h.bind XW.mono fun w M1 v T1 e1 rm1 i1 h1 => ?_⟩
  cases w with
  | tup l =>
    cases i1 with
    | tup hz hs => exact ⟨_, _, rfl, .inr ⟨hK ▸ hz.sq, hK ▸ h1.here rm1 (it_t (rowT hz hs))⟩⟩
  | lst l =>
    cases i1 with
    | lst hz hs => exact ⟨_, _, rfl, .inl ⟨hz.sq, hK ▸ h1.here rm1 (it_l (rowL hz hs))⟩⟩
  | ref n =>
    cases q : cellL M1 n with
    | none => dsimp only at h1; rw [q] at h1; exact h1.elim
    | some l =>
      dsimp only at h1
      rw [q] at h1
      obtain ⟨a, xs, rfl, h2, h3⟩ := cell_row rm1 i1 q
      exact ⟨a, xs, rfl, .inl ⟨hK ▸ h2, hK ▸ h1.here rm1 (it_l h3)⟩⟩
  | _ => exact h1.elim
theorem one_arg {T : Ws} {e : Expr} {s : L2.St} {H : Hp} {P : List V → Hp → Prop} (h : TEx G Wx cf c s H fun v H1 => P [v] H1) : TAx G Wx cf (.cons c .nil) s H P := by
  obtain ⟨T, σ, M, rfl, rm, rs, h⟩ := h
  refine ⟨T, σ, M, rfl, rm, rs, ?_⟩
  simp only [evEs]
  cases q : evE G.kl cf c σ M with
  | ok w M1 =>
    rw [q] at h
    intro vs T1 e1 rm1 i1
    obtain ⟨x, rfl, ix⟩ := i1.one
    exact h x T1 e1 rm1 ix
  | exc a b d => rw [q] at h; exact h
  | bad => rw [q] at h; exact h
theorem i_enum {kk : Nat} {tpos : Pos} {elts : List Expr} (hK : G.K = X.K) (hg : Gl X "enumerate") (hm : X.mg "enumerate" = none) (ha : PE X e (TEx G Wx cf c)) (hs : starEach [e] X.env = (false, eval e X.env) :: starEach [] X.env) :
    PI X (.Tuple elts kk tpos) (.Call (.Name "enumerate" p) [e] [] pos) (TIx G Wx cf (.enum c)) := by
  refine pi_weak (pi_enumA hg hm (x_cons (cf := cf) (Wx := Wx) ha x_nil hs) hs) fun s H R h => ?_
  obtain ⟨T, σ, M, rfl, rm, rs, h⟩ := h
  simp only [evSr] at h
  refine one_arg (T := T) (e := e) ⟨T, σ, M, rfl, rm, rs, h.bind XW.mono fun w M1 v T1 e1 rm1 i1 h1 => ?_⟩
  cases w with
  | tup l =>
    cases i1 with
    | tup hz hs => exact ⟨_, _, rfl, .inr ⟨hK ▸ hz.sq, hK ▸ h1.here rm1 (it_et (rowT hz hs))⟩⟩
  | lst l =>
    cases i1 with
    | lst hz hs => exact ⟨_, _, rfl, .inl ⟨hz.sq, hK ▸ h1.here rm1 (it_el (rowL hz hs))⟩⟩
  | ref n =>
    cases q : cellL M1 n with
    | none => dsimp only at h1; rw [q] at h1; exact h1.elim
    | some l =>
      dsimp only at h1
      rw [q] at h1
      obtain ⟨a, xs, rfl, h2, h3⟩ := cell_row rm1 i1 q
      exact ⟨a, xs, rfl, .inl ⟨hK ▸ h2, hK ▸ h1.here rm1 (it_el h3)⟩⟩
  | _ => exact h1.elim
theorem args2 {γ δ : Type} {T : Ws} {σ : Sl} {M : Mm} {rel' : Ws → δ → γ → Prop} {xw : Ws → String → List Vl → Mm → Prop} (mx : MonoX xw) {f : Vl → Vl → Mm → R γ} {Q : δ → Hp → Prop} {P : List V → Hp → Prop}
    (h : Sat G.K rel' xw T ((evE G.kl cf c1 σ M).bind fun x M1 => (evE G.kl cf c2 σ M1).bind fun y M2 => f x y M2) Q)
    (k : ∀ x y M2 vs T2, Ext T T2 → RelM G.K T2 M2 → IsVs G.K T2 vs [x, y] → Sat G.K rel' xw T2 (f x y M2) Q → P vs T2.H) : Sat G.K (IsVs G.K) xw T (evEs G.kl cf (.cons c1 (.cons c2 .nil)) σ M) P := by
  simp only [evEs]
  cases q : evE G.kl cf c1 σ M with
  | ok w M1 =>
    rw [q] at h
    simp only [R.bind_ok] at h ⊢
    cases q2 : evE G.kl cf c2 σ M1 with
    | ok w2 M2 =>
      rw [q2] at h
      intro vs T1 e1 rm1 i1
      exact k w w2 M2 vs T1 e1 rm1 i1 (h.ext mx e1)
    | exc a b d => rw [q2] at h; exact h
    | bad => rw [q2] at h; exact h
  | exc a b d => rw [q] at h; exact h
  | bad => rw [q] at h; exact h
theorem i_zip {kk : Nat} {tpos : Pos} {elts : List Expr} (hK : G.K = X.K) (hg : Gl X "zip") (hm : X.mg "zip" = none) (ha : PE X e1 (TEx G Wx cf c1)) (hb : PE X e2 (TEx G Wx cf c2))
    (hs : starEach [e1, e2] X.env = (false, eval e1 X.env) :: starEach [e2] X.env) (hs2 : starEach [e2] X.env = (false, eval e2 X.env) :: starEach [] X.env) (hpl : (backTo pos (starEach [e2] X.env)).any (·.1) = false) :
    PI X (.Tuple elts kk tpos) (.Call (.Name "zip" p) [e1, e2] [] pos) (TIx G Wx cf (.zip c1 c2)) := by
  refine pi_weak (RZ.pi_zipA hg hm (x_cons (cf := cf) (Wx := Wx) ha (x_cons hb x_nil hs2) hs) hs hpl) fun s H R h => ?_
  obtain ⟨T, σ, M, rfl, rm, rs, h⟩ := h
  simp only [evSr] at h
  refine ⟨T, σ, M, rfl, rm, rs, args2 XW.mono h fun x y M2 vs T1 e1 rm1 i1 h1 => ?_⟩
  obtain ⟨u, v, rfl, ix, iy⟩ := i1.two
  cases x with
  | tup l =>
    cases y with
    | tup m =>
      cases ix with
      | tup hz hs =>
        cases iy with
        | tup hz' hs' => exact ⟨_, _, _, _, rfl, .inr ⟨hK ▸ hz.sq, hK ▸ hz'.sq, hK ▸ h1.here rm1 (it_zt (rowT hz hs) (rowT hz' hs'))⟩⟩
    | _ => exact h1.elim
  | lst l =>
    cases ix with
    | lst hz hs =>
      cases y with
      | lst m =>
        cases iy with
        | lst hz' hs' => exact ⟨_, _, _, _, rfl, .inl ⟨hz.sq, hz'.sq, hK ▸ h1.here rm1 (it_zl (rowL hz hs) (rowL hz' hs'))⟩⟩
      | ref n =>
        cases q : cellL M2 n with
        | none => dsimp only at h1; rw [q] at h1; exact h1.elim
        | some m =>
          dsimp only at h1
          rw [q] at h1
          obtain ⟨a, xs, rfl, h2, h3⟩ := cell_row rm1 iy q
          exact ⟨_, a, _, xs, rfl, .inl ⟨hz.sq, hK ▸ h2, hK ▸ h1.here rm1 (it_zl ((rowL hz hs).more fun _ _ => trivial) h3)⟩⟩
      | _ => exact h1.elim
  | ref n =>
    cases y with
    | lst m =>
      cases iy with
      | lst hz' hs' =>
        cases q : cellL M2 n with
        | none => dsimp only at h1; rw [q] at h1; exact h1.elim
        | some l =>
          dsimp only at h1
          rw [q] at h1
          obtain ⟨a, xs, rfl, h2, h3⟩ := cell_row rm1 ix q
          exact ⟨a, _, xs, _, rfl, .inl ⟨hK ▸ h2, hz'.sq, hK ▸ h1.here rm1 (it_zl h3 ((rowL hz' hs').more fun _ _ => trivial))⟩⟩
    | ref k =>
      cases q : cellL M2 n with
      | none => dsimp only at h1; rw [q] at h1; exact h1.elim
      | some l =>
        cases q2 : cellL M2 k with
        | none => dsimp only at h1; rw [q, q2] at h1; exact h1.elim
        | some m =>
          dsimp only at h1
          rw [q, q2] at h1
          obtain ⟨a, xs, rfl, h2, h3⟩ := cell_row rm1 ix q
          obtain ⟨b, ys, rfl, h4, h5⟩ := cell_row rm1 iy q2
          exact ⟨a, b, xs, ys, rfl, .inl ⟨hK ▸ h2, hK ▸ h4, hK ▸ h1.here rm1 (it_zl (h3.more fun _ z => ⟨z.1, trivial⟩) (h5.more fun _ z => z.2))⟩⟩
    | _ => exact h1.elim
  | _ => exact h1.elim
theorem i_rng1 (hg : Gl X "range") (hm : X.mg "range" = none) (ha : PE X e1 (TEx G Wx cf c1)) (hs : starEach [e1] X.env = (false, eval e1 X.env) :: starEach [] X.env) :
    PI X tg (.Call (.Name "range" p) [e1] [] pos) (TIx G Wx cf (.rng1 c1)) := by
  refine pi_weak (pi_range1 hg hm (x_cons (cf := cf) (Wx := Wx) ha x_nil hs) hs) fun s H R h => ?_
  obtain ⟨T, σ, M, rfl, rm, rs, h⟩ := h
  simp only [evSr] at h
  refine one_arg (T := T) (e := e1) ⟨T, σ, M, rfl, rm, rs, h.bind XW.mono fun w M1 v T1 ex1 rm1 i1 h1 => ?_⟩
  cases w with
  | int j =>
    have h1 : Sat _ _ _ _ (if rngOk j then .ok (rngV 0 j, []) M1 else .bad) _ := h1
    by_cases q : rngOk j
    · rw [if_pos q] at h1
      cases i1
      exact ⟨j, rfl, q.1, q.2, by have := h1.here rm1 (it_r (lo := 0) (hi := j)); simpa using this⟩
    · rw [if_neg q] at h1; exact h1.elim
  | _ => exact h1.elim
theorem i_rng2 (hg : Gl X "range") (hm : X.mg "range" = none) (ha : PE X e1 (TEx G Wx cf c1)) (hb : PE X e2 (TEx G Wx cf c2))
    (hs : starEach [e1, e2] X.env = (false, eval e1 X.env) :: starEach [e2] X.env) (hs2 : starEach [e2] X.env = (false, eval e2 X.env) :: starEach [] X.env) :
    PI X tg (.Call (.Name "range" p) [e1, e2] [] pos) (TIx G Wx cf (.rng2 c1 c2)) := by
  refine pi_weak (pi_range2 hg hm (x_cons (cf := cf) (Wx := Wx) ha (x_cons hb x_nil hs2) hs) (by rw [hs, hs2]; rfl) hs2) fun s H R h => ?_
  obtain ⟨T, σ, M, rfl, rm, rs, h⟩ := h
  simp only [evSr] at h
  refine ⟨T, σ, M, rfl, rm, rs, args2 XW.mono h fun x y M2 vs T1 e1 rm1 i1 h1 => ?_⟩
  obtain ⟨u, v, rfl, ix, iy⟩ := i1.two
  cases x with
  | int i =>
    cases y with
    | int j =>
      cases ix; cases iy
      have h1 : Sat _ _ _ _ (if rngOk i ∧ rngOk j then .ok (rngV i j, []) M2 else .bad) _ := h1
      by_cases q : rngOk i ∧ rngOk j
      · rw [if_pos q] at h1
        exact ⟨i, j, rfl, ⟨q.1.1, q.1.2, q.2.1, q.2.2⟩, h1.here rm1 it_r⟩
      · rw [if_neg q] at h1; exact h1.elim
    | _ => exact h1.elim
  | _ => exact h1.elim

/-! ### list(range(..)), tuple(range(..)) -/
theorem rg_ints {K : PySem.W.Frag} {T : Ws} {lo hi : Int} : IsVs K T (rgV lo hi) (rngV lo hi) := by
  unfold rgV rngV
  generalize List.range (hi - lo).toNat = r
  induction r with
  | nil => exact .nil
  | cons a r ih => exact .cons (.int _) ih
theorem rg_len {lo hi : Int} : (rngV lo hi).length = (hi - lo).toNat := by simp [rngV]
theorem rg_fin {k fz : Bool} {T : Ws} {M : Mm} {Q : VK} {s : L2.St} {lo hi : Int} (rm : RelM G.K T M) (ok : rngOk lo ∧ rngOk hi)
    (h : Sat G.K (IsV G.K) (XW G Wx s) T (if (rngV lo hi).length ≤ 16777216 then (if k = true then mkL fz (rngV lo hi) M else .ok (.tup (rngV lo hi)) M) else .bad) Q) :
    RgOk lo hi ∧ (k = true → ∀ q, T.H q = none → Q (.ref q) (upd T.H q (.lst (rgV lo hi)))) ∧ (k = false → ∀ q, T.H q = none → Q (.ref q) (upd T.H q (.tup (rgV lo hi)))) := by
  split at h
  · rename_i hl
    rw [rg_len] at hl
    refine ⟨⟨ok.1.1, ok.1.2, ok.2.1, ok.2.2, hl⟩, fun hk q hq => ?_, fun hk q hq => ?_⟩
    · rw [if_pos hk] at h
      obtain ⟨w', M', T', q1, q2, q3, q4, q5⟩ := mkL_ok (fz := fz) rm (rg_ints (K := G.K) (T := T) (lo := lo) (hi := hi)) hq
      rw [q1] at h
      rw [← q2]
      exact h _ T' q3 q4 q5
    · rw [if_neg (by rw [hk]; exact Bool.false_ne_true)] at h
      obtain ⟨e2, rm2, np⟩ := fresh_fz rm hq (.tup (rgV lo hi))
      exact h _ _ e2 rm2 (.tup (.inl ⟨.inl upd_same, np⟩) rg_ints)
  · exact h.elim
theorem x_src1 {k fz : Bool} {p2 pos2 : Pos} {nm : Str} (hc : X.calm = true) (hnm : nm = if k = true then ("list" : Str) else "tuple") (hgl : Gl X nm) (hml : X.mg nm = none) (hg : Gl X "range") (hm : X.mg "range" = none) (ha : PE X e1 (TEx G Wx cf c1)) (hs : starEach [e1] X.env = (false, eval e1 X.env) :: starEach [] X.env) :
    PE X (.Call (.Name nm p2) [.Call (.Name "range" p) [e1] [] pos] [] pos2) (TEx G Wx cf (.src k fz (.rng1 c1))) := by
  have rd : ∀ s H Q, TEx G Wx cf (.src k fz (.rng1 c1)) s H Q → tRg1 (TEx G Wx cf c1) s H fun a b H1 => RgOk a b ∧ (k = true → ∀ q, H1 q = none → Q (.ref q) (upd H1 q (.lst (rgV a b)))) ∧ (k = false → ∀ q, H1 q = none → Q (.ref q) (upd H1 q (.tup (rgV a b)))) := fun s H Q h => by
    obtain ⟨T, σ, M, rfl, rm, rs, h⟩ := h
    simp only [evE, evSr, bind_assoc] at h
    refine ⟨T, σ, M, rfl, rm, rs, h.bind XW.mono fun w M1 v T1 ex1 rm1 i1 h1 => ?_⟩
    cases w with
    | int j =>
      dsimp only at h1
      by_cases q : rngOk j
      · rw [if_pos q] at h1
        cases i1
        exact ⟨j, rfl, rg_fin rm1 ⟨by unfold rngOk; decide, q⟩ h1⟩
      · rw [if_neg q] at h1; exact h1.elim
    | _ => exact h1.elim
  cases k with
  | true =>
    subst hnm
    exact pe_weak (pe_listRg hc hgl hml (prg_1 hg hm ha hs) rfl) fun s H Q h => by
      obtain ⟨T, σ, M, e, rm, rs, z⟩ := rd s H Q h
      exact ⟨T, σ, M, e, rm, rs, z.imp fun v H ⟨n, e, a, b, _⟩ => ⟨n, e, a, b rfl⟩⟩
  | false =>
    subst hnm
    exact pe_weak (pe_tupRg hc hgl hml (prg_1 hg hm ha hs) rfl) fun s H Q h => by
      obtain ⟨T, σ, M, e, rm, rs, z⟩ := rd s H Q h
      exact ⟨T, σ, M, e, rm, rs, z.imp fun v H ⟨n, e, a, _, b⟩ => ⟨n, e, a, b rfl⟩⟩
theorem x_src2 {k fz : Bool} {p2 pos2 : Pos} {nm : Str} (hc : X.calm = true) (hnm : nm = if k = true then ("list" : Str) else "tuple") (hgl : Gl X nm) (hml : X.mg nm = none) (hg : Gl X "range") (hm : X.mg "range" = none) (ha : PE X e1 (TEx G Wx cf c1)) (hb : PE X e2 (TEx G Wx cf c2))
    (hs : starEach [e1, e2] X.env = (false, eval e1 X.env) :: starEach [e2] X.env) (hs2 : starEach [e2] X.env = (false, eval e2 X.env) :: starEach [] X.env) (hp : (backTo pos (starEach [e2] X.env)).any (·.1) = false) :
    PE X (.Call (.Name nm p2) [.Call (.Name "range" p) [e1, e2] [] pos] [] pos2) (TEx G Wx cf (.src k fz (.rng2 c1 c2))) := by
  have rd : ∀ s H Q, TEx G Wx cf (.src k fz (.rng2 c1 c2)) s H Q → tRg2 (TEx G Wx cf c1) (TEx G Wx cf c2) s H fun a b H1 => RgOk a b ∧ (k = true → ∀ q, H1 q = none → Q (.ref q) (upd H1 q (.lst (rgV a b)))) ∧ (k = false → ∀ q, H1 q = none → Q (.ref q) (upd H1 q (.tup (rgV a b)))) := fun s H Q h => by
    obtain ⟨T, σ, M, rfl, rm, rs, h⟩ := h
    simp only [evE, evSr, bind_assoc] at h
    refine ⟨T, σ, M, rfl, rm, rs, h.bind XW.mono fun w M1 v T1 ex1 rm1 i1 h1 => ?_⟩
    refine ⟨T1, σ, M1, rfl, rm1, rs.ext ex1, h1.bind XW.mono fun w2 M2 v2 T2 ex2 rm2 i2 h2 => ?_⟩
    cases w with
    | int i =>
      cases w2 with
      | int j =>
        dsimp only at h2
        by_cases q : rngOk i ∧ rngOk j
        · rw [if_pos q] at h2
          cases i1; cases i2
          exact ⟨i, j, rfl, rfl, rg_fin rm2 q h2⟩
        · rw [if_neg q] at h2; exact h2.elim
      | _ => exact h2.elim
    | _ => exact h2.elim
  have im : ∀ {s : L2.St} {H : Hp} {R R' : Int → Int → Hp → Prop}, tRg2 (TEx G Wx cf c1) (TEx G Wx cf c2) s H R → (∀ a b H, R a b H → R' a b H) → tRg2 (TEx G Wx cf c1) (TEx G Wx cf c2) s H R' := fun {s H R R'} z f => by
    obtain ⟨T, σ, M, e, rm, rs, z⟩ := z
    exact ⟨T, σ, M, e, rm, rs, z.imp fun v H ⟨T2, σ2, M2, e2, rm2, rs2, z2⟩ => ⟨T2, σ2, M2, e2, rm2, rs2, z2.imp fun v2 H2 ⟨i, j, a, b, c⟩ => ⟨i, j, a, b, f _ _ _ c⟩⟩⟩
  cases k with
  | true =>
    subst hnm
    exact pe_weak (pe_listRg hc hgl hml (prg_2 hg hm ha hb hs hs2 hp) rfl) fun s H Q h => im (rd s H Q h) fun a b H z => ⟨z.1, z.2.1 rfl⟩
  | false =>
    subst hnm
    exact pe_weak (pe_tupRg hc hgl hml (prg_2 hg hm ha hb hs hs2 hp) rfl) fun s H Q h => im (rd s H Q h) fun a b H z => ⟨z.1, z.2.2 rfl⟩
end
end Sg
end

section
set_option Elab.async false
set_option linter.all false
set_option maxRecDepth 100000
set_option maxHeartbeats 1000000
/-! Sg, part 8: subscripts, slices, calls of built-ins, methods of lists. -/
namespace Sg
open PySem PySem.Spec PyProof.Rows L2

/-! ### subscripts -/
section
variable {X : Cx}
theorem ix_dictW (hu : X.A.units + 200 < cLine) : IxR X (fun x y H Q => ∃ a v, x = .ref a ∧ DGet H a y (some v) ∧ Q v H) := by
  intro value slice pins s σ H x y v u Q I rx ry h hs
  obtain ⟨a, z, rfl, g, q⟩ := h
  obtain rfl : v = Value.ref a := rx
  exact tail_any (dict_typeIs I g) PySem.F.slot_dict_getitem.lookup (d_getItem (by omega) I g ry fun w' s' I' rw' => ⟨z, H, I', rw', q⟩) hs
theorem keyOf_is {K : PySem.W.Frag} {T : Ws} {y : V} {w : Vl} {k : L2.Key} (h : IsV K T y w) (e : keyOf w = some k) : y = kV k := by
  cases w <;> simp [keyOf] at e
  · subst e; cases h; rfl
  · subst e; cases h; rfl
theorem ix_allW (hu : X.A.units + 200 < cLine) : IxR X (R2of X.K idxV) := by
  intro value slice pins s σ H x y v u Q I rx ry h hs
  obtain ⟨T, w1, w2, M, rfl, rm, i1, i2, h⟩ := h
  unfold idxV at h
  split at h
  · rename_i l e
    obtain ⟨a, xs, rfl, h1, h2, rfl⟩ := rd_tup rm i1 e
    split at h
    · rename_i k
      cases q : (place l.length k).bind fun j => l[j]? with
      | none => rw [q] at h; exact h.elim
      | some w =>
        rw [q] at h
        obtain ⟨z, hz, iz⟩ := place_at h2 q
        cases i2
        exact ix_tup value slice pins s σ T.H _ _ v u Q I rx ry ⟨a, xs, k, z, rfl, rfl, h1.sq, hz, h.here rm iz⟩ hs
    · exact h.elim
  · rename_i l e
    obtain ⟨a, xs, rfl, h1, h2⟩ := rd_lst rm i1 e
    split at h
    · rename_i k
      cases q : (place l.length k).bind fun j => l[j]? with
      | none => rw [q] at h; exact h.elim
      | some w =>
        rw [q] at h
        obtain ⟨z, hz, iz⟩ := place_at h2 q
        cases i2
        exact ix_list value slice pins s σ T.H _ _ v u Q I rx ry ⟨a, xs, k, z, rfl, rfl, SqL.of h1, hz, h.here rm iz⟩ hs
    · exact h.elim
  · rename_i n e
    have := rd_same rm i1 e (fun l q => nomatch q)
    subst this
    split at h
    · rename_i kvs k q1 q2
      obtain ⟨a, ha, _, kv, h1, h2⟩ := rm.get q1
      cases q : lookK k kvs with
      | none => rw [q] at h; exact h.elim
      | some w =>
        rw [q] at h
        obtain ⟨z, hz, iz⟩ := kv_look h2 q
        cases i1 with
        | ref hb =>
          rw [ha] at hb
          cases hb
          have ey := keyOf_is i2 q2
          subst ey
          exact ix_dictW hu value slice pins s σ T.H _ _ v u Q I rx ry ⟨a, z, rfl, by have := DGet.k (k := k) h1; rwa [show valV kv k = some z from hz] at this, h.here rm iz⟩ hs
    · exact h.elim
  · exact h.elim
end
section
variable {G : Pg} {Wx : WX} {cf : CF} {X : Cx} {e e1 e2 e3 : Expr} {c c1 c2 c3 : E} {pos p1 p2 p3 : Pos}
theorem x_idx (hK : G.K = X.K) (hu : X.A.units + 200 < cLine) (ha : PE X e1 (TEx G Wx cf c1)) (hb : PE X e2 (TEx G Wx cf c2)) (hs : PlainIx e2) : PE X (.Subscript e1 e2 pos) (TEx G Wx cf (.idx c1 c2)) := by
  refine pe_weak (pe_ix (ix_allW hu) ha hb hs) fun s H Q h => ?_
  obtain ⟨T, σ, M, rfl, rm, rs, h⟩ := h
  simp only [evE] at h
  refine ⟨T, σ, M, rfl, rm, rs, h.bind XW.mono fun w M1 v T1 e1 rm1 i1 h1 => ?_⟩
  refine ⟨T1, σ, M1, rfl, rm1, rs.ext e1, h1.bind XW.mono fun w2 M2 v2 T2 e2 rm2 i2 h2 => ?_⟩
  rw [← hK]
  exact ⟨T2, w, w2, M2, rfl, rm2, i1.ext e2, i2, h2.calm calm_idx⟩

/-! ### slices -/
theorem sIx_cut (n d : Nat) (o : Option Int) : HT.sIx n d o = cutAt n d o := by cases o <;> rfl
theorem cutV_is {K : PySem.W.Frag} {T : Ws} {xs : List V} {l : List Vl} (h : IsVs K T xs l) (lo hi : Option Int) : IsVs K T (cutV xs lo hi) (cutL l lo hi) := by
  unfold cutV cutL
  rw [h.length]
  simp only [sIx_cut]
  exact (h.drop _).take _
def SLof (K : PySem.W.Frag) (fz : Bool) : V → Option Int → Option Int → Hp → VK → Prop := fun x lo hi H Q => ∃ T w M, T.H = H ∧ RelM K T M ∧ IsV K T x w ∧ SatV K T (slV fz w lo hi M) Q
theorem sl_allW {fz : Bool} : SlR X (SLof X.K fz) := by
  intro pins s σ H x v vl vu lo hi sl Q I rx hs pl pu h
  obtain ⟨T, w, M, rfl, rm, ix, h⟩ := h
  have lst : ∀ (a : Addr) (xs : List V) (l : List Vl), x = .ref a → SqL X.K T.H a xs → IsVs X.K T xs l → SatV X.K T (mkL fz (cutL l lo hi) M) Q →
      ∃ T1 id, typeLookup (.type T1) "__getitem__" = pure (some (.builtin id)) ∧ s.TypeIs v T1 ∧ wpAny (model X.prog X.w) X.A (getItem v (.ref sl)) (EP X pins σ Q) X.xe s := fun a xs l hx h1 h2 h3 => by
    subst hx
    refine sl_list pins s σ T.H _ v vl vu lo hi sl Q I rx hs pl pu ⟨a, xs, rfl, h1, fun p hp => ?_⟩
    obtain ⟨w', M', T', q1, q2, q3, q4, q5⟩ := mkL_ok (fz := fz) rm (cutV_is h2 lo hi) hp
    rw [q1] at h3
    rw [← q2]
    exact h3 _ T' q3 q4 q5
  unfold slV at h
  split at h
  · rename_i l e
    obtain ⟨a, xs, rfl, h1, h2, rfl⟩ := rd_tup rm ix e
    refine sl_tupA pins s σ T.H _ v vl vu lo hi sl Q I rx hs pl pu ⟨a, xs, rfl, h1.sq, fun hw => ?_, fun hw p hp => ?_⟩
    · have e1 : cutL l lo hi = l := by
        unfold cutL
        rw [h2.length, sIx_cut, sIx_cut] at hw
        rw [hw.1, hw.2]
        simp
      rw [e1] at h
      exact h.here rm ix
    · obtain ⟨e2, rm2, np⟩ := fresh_fz rm hp (.tup (cutV xs lo hi))
      exact h _ _ e2 rm2 (.tup (.inl ⟨.inl upd_same, np⟩) ((cutV_is h2 lo hi).ext e2))
  · rename_i l e
    obtain ⟨a, xs, rfl, h1, h2⟩ := rd_lst rm ix e
    exact lst a xs l rfl (SqL.of h1) h2 h
  · rename_i l e
    obtain ⟨a, xs, rfl, h1, h2⟩ := rd_scr rm ix e
    exact lst a xs l rfl h1.sq h2 h
  · exact h.elim
theorem o_no : PO X none (TOx G Wx cf .no) := po_weak po_none fun s H Q h => by
  obtain ⟨T, σ, M, rfl, rm, rs, h⟩ := h
  simp only [evOE] at h
  exact h.here rm rfl
theorem o_so (ha : PE X e (TEx G Wx cf c)) : PO X (some e) (TOx G Wx cf (.so c)) := po_weak (po_some ha) fun s H Q h => by
  obtain ⟨T, σ, M, rfl, rm, rs, h⟩ := h
  simp only [evOE] at h
  refine ⟨T, σ, M, rfl, rm, rs, h.bind XW.mono fun w M1 v T1 e1 rm1 i1 h1 => ?_⟩
  cases w with
  | int i => cases i1; exact ⟨i, rfl, h1.here rm1 rfl⟩
  | _ => exact h1.elim
theorem x_sl {fz : Bool} {lo hi : Option Expr} {cl ch : OE} (hK : G.K = X.K) (ha : PE X e (TEx G Wx cf c)) (hl : PO X lo (TOx G Wx cf cl)) (hh : PO X hi (TOx G Wx cf ch)) : PE X (.Subscript e (.Slice lo hi none p2) pos) (TEx G Wx cf (.sl fz c cl ch)) := by
  refine pe_weak (pe_slice (sl_allW (fz := fz)) ha hl hh) fun s H Q h => ?_
  obtain ⟨T, σ, M, rfl, rm, rs, h⟩ := h
  simp only [evE] at h
  refine ⟨T, σ, M, rfl, rm, rs, h.bind XW.mono fun w M1 v T1 e1 rm1 i1 h1 => ?_⟩
  refine ⟨T1, σ, M1, rfl, rm1, rs.ext e1, h1.bind XW.mono fun l M2 l' T2 e2 rm2 el h2 => ?_⟩
  cases el
  refine ⟨T2, σ, M2, rfl, rm2, (rs.ext e1).ext e2, h2.bind XW.mono fun u M3 u' T3 e3 rm3 eu h3 => ?_⟩
  cases eu
  rw [← hK]
  exact ⟨T3, w, M3, rfl, rm3, (i1.ext e2).ext e3, h3.calm calm_sl⟩
theorem x_revL {fz : Bool} {k : Nat} (hK : G.K = X.K) (ha : PE X e (TEx G Wx cf c)) : PE X (.Subscript e (.Slice none none (some (.UnaryOp .USub (.Constant (.int 1) k p1) p2)) p3) pos) (TEx G Wx cf (.rev fz c)) := by
  refine pe_weak (pe_revW ha) fun s H Q h => ?_
  obtain ⟨T, σ, M, rfl, rm, rs, h⟩ := h
  simp only [evE] at h
  refine ⟨T, σ, M, rfl, rm, rs, h.bind XW.mono fun w M1 v T1 e1 rm1 i1 h1 => ?_⟩
  cases q : rd M1 w with
  | lst l =>
    rw [q] at h1
    obtain ⟨a, xs, rfl, h2, h3⟩ := rd_lst rm1 i1 q
    refine ⟨a, xs, rfl, .inl ⟨SqL.of h2, fun p hp => ?_⟩⟩
    obtain ⟨w', M', T', q1, q2, q3, q4, q5⟩ := mkL_ok (fz := fz) rm1 h3.reverse hp
    dsimp only at h1
    rw [q1] at h1
    rw [← q2]
    exact h1 _ T' q3 q4 q5
  | tup l =>
    rw [q] at h1
    obtain ⟨a, xs, rfl, h2, h3, _⟩ := rd_tup rm1 i1 q
    refine ⟨a, xs, rfl, .inr ⟨hK ▸ h2.sq, fun p hp => ?_⟩⟩
    obtain ⟨e2, rm2, np⟩ := fresh_fz rm1 hp (.tup xs.reverse)
    exact h1 _ _ e2 rm2 (.tup (.inl ⟨.inl upd_same, np⟩) (h3.reverse.ext e2))
  | _ => rw [q] at h1; exact h1.elim

/-! ### calls of built-ins -/
theorem x_bi {b : BI} {es : List Expr} {cs : Es} {id : String} {x : Str} (hK : G.K = X.K) (hc : CallR X (.builtin id) (RAof X.K (biV b))) (hg : Gl X x) (hm : X.mg x = none) (hv : bootBuiltins x = some (.builtin id)) (ha : PA X (e :: es) (TAx G Wx cf cs)) (hn : x ≠ "__name__") (hdb : (x == ("__debug__" : Str)) = false)
    (he : starEach (e :: es) X.env = (false, eval e X.env) :: starEach es X.env) (hpl : (backTo pos (starEach es X.env)).any (·.1) = false) : PE X (.Call (.Name x p1) (e :: es) [] pos) (TEx G Wx cf (.bi b cs)) := by
  refine pe_weak (pe_callB hc hg hm hv ha hn hdb he hpl) fun s H Q h => ?_
  obtain ⟨T, σ, M, rfl, rm, rs, h⟩ := h
  simp only [evE] at h
  refine ⟨T, σ, M, rfl, rm, rs, h.bind XW.mono fun ws M1 vs T1 e1 rm1 i1 h1 => ?_⟩
  rw [← hK]
  exact ⟨T1, ws, M1, rfl, rm1, i1, h1.calm calm_bi⟩
theorem x_biT {b : BI} {es : List Expr} {cs : Es} {id : String} {x : Str} (hK : G.K = X.K) (hc : CallR X (.type id) (RAof X.K (biV b))) (hg : Gl X x) (hm : X.mg x = none) (hv : bootBuiltins x = some (.type id)) (ha : PA X (e :: es) (TAx G Wx cf cs)) (hn : x ≠ "__name__") (hdb : (x == ("__debug__" : Str)) = false)
    (he : starEach (e :: es) X.env = (false, eval e X.env) :: starEach es X.env) (hpl : (backTo pos (starEach es X.env)).any (·.1) = false) : PE X (.Call (.Name x p1) (e :: es) [] pos) (TEx G Wx cf (.bi b cs)) := by
  refine pe_weak (pe_callTy hc hg hm hv ha hn hdb he hpl) fun s H Q h => ?_
  obtain ⟨T, σ, M, rfl, rm, rs, h⟩ := h
  simp only [evE] at h
  refine ⟨T, σ, M, rfl, rm, rs, h.bind XW.mono fun ws M1 vs T1 e1 rm1 i1 h1 => ?_⟩
  rw [← hK]
  exact ⟨T1, ws, M1, rfl, rm1, i1, h1.calm calm_bi⟩
theorem call_isiW {t : Ty} : CallR X (.builtin "isinstance") (fun xs H Q => ∃ T M x w b, T.H = H ∧ RelM X.K T M ∧ xs = [x, .ty (tyName t)] ∧ IsV X.K T x w ∧ insTy M w t = some b ∧ Q (.bl b) H) := by
  intro pins s σ H xs us Q I r h
  obtain ⟨T, M, x, w, b, rfl, rm, rfl, ix, e, q⟩ := h
  exact isi_ok I rm ix e r q
theorem x_isi {t : Ty} {x : Str} (hK : G.K = X.K) (hg : Gl X "isinstance") (hm : X.mg "isinstance" = none) (hgt : Gl X x) (hmt : X.mg x = none) (hvt : bootBuiltins x = some (.type (tyName t))) (hn : x ≠ "__name__") (hdb : (x == ("__debug__" : Str)) = false) (ha : PE X e (TEx G Wx cf c))
    (he : starEach [e, .Name x p2] X.env = (false, eval e X.env) :: starEach [.Name x p2] X.env) : PE X (.Call (.Name "isinstance" p1) [e, .Name x p2] [] pos) (TEx G Wx cf (.bi (.isi t) (.cons c .nil))) := by
  have ht : PE X (.Name x p2) (tC (.ty (tyName t))) := pe_bltn hgt hmt hvt (show L2.RelV (.ty (tyName t)) _ from rfl) hn hdb
  refine pe_weak (pe_callB (call_isiW (t := t)) hg hm PyProof.Rows.boot_isinstance (pa_cons ha (pa_cons ht pa_nil rfl) he) (by decide) (by decide) he rfl) fun s H Q h => ?_
  obtain ⟨T, σ, M, rfl, rm, rs, h⟩ := h
  simp only [evE, evEs, bind_assoc] at h
  refine ⟨T, σ, M, rfl, rm, rs, h.bind XW.mono fun w M1 v T1 e1 rm1 i1 h1 => ?_⟩
  simp only [R.bind_ok, biV] at h1
  cases q : insTy M1 w t with
  | none => rw [q] at h1; exact h1.elim
  | some b =>
    rw [q] at h1
    exact ⟨T1, M1, v, w, b, rfl, hK ▸ rm1, rfl, hK ▸ i1, q, h1.here rm1 (.bl b)⟩
end

/-! ### methods of lists -/
def RMof (K : PySem.W.Frag) (m : BM) : V → List V → Hp → VK → Prop := fun x xs H Q => ∃ T w ws M, T.H = H ∧ RelM K T M ∧ IsV K T x w ∧ IsVs K T xs ws ∧ SatV K T (methV m w ws M) Q
theorem cell_put {K : PySem.W.Frag} {T : Ws} {M : Mm} {x : V} {n : Nat} {l : List Vl} (rm : RelM K T M) (ix : IsV K T x (.ref n)) (q : cellL M n = some l) :
    ∃ a xs, x = .ref a ∧ T.H a = some (.lst xs) ∧ IsVs K T xs l ∧ ∀ ys l', IsVs K T ys l' → ∃ T', T'.H = upd T.H a (.lst ys) ∧ Ext T T' ∧ RelM K T' (setL M n l') := by
  have hm : M[n]? = some (.lst l) := by
    unfold cellL at q
    split at q
    · rename_i l' hq; cases q; exact hq
    · cases q
  obtain ⟨a, ha, _, xs, h1, h2⟩ := rm.get hm
  cases ix with
  | ref hb =>
    rw [ha] at hb
    cases hb
    refine ⟨a, xs, rfl, h1, h2, fun ys l' hy => ?_⟩
    obtain ⟨e, rm'⟩ := put_cell rm ha (.lst ys) (.lst l') fun T' hT e' => ⟨ys, by rw [hT, upd_same], hy.ext e'⟩
    exact ⟨_, rfl, e, rm'⟩
theorem meth_cell {K : PySem.W.Frag} {T : Ws} {M : Mm} {w : Vl} {m : BM} {ws : List Vl} {Q : VK} (hm : m ≠ .index) (h : SatV K T (methV m w ws M) Q) : ∃ n l, w = .ref n ∧ cellL M n = some l ∧ SatV K T (methL m n l ws M) Q := by
  unfold methV at h
  split at h
  · exact absurd rfl hm
  · split at h
    · rename_i n
      split at h
      · rename_i l q
        exact ⟨n, l, rfl, q, h⟩
      · exact h.elim
    · exact h.elim
section
variable {X : Cx}
theorem m_append : MtR X "list.append" (RMof X.K .append) := by
  intro pins s σ H x xs v us Q I rx rv h
  obtain ⟨T, w, ws, M, rfl, rm, ix, iv, h⟩ := h
  obtain ⟨n, l, rfl, q, h⟩ := meth_cell (by decide) h
  obtain ⟨a, zs, rfl, h1, h2, put⟩ := cell_put rm ix q
  unfold methL at h
  split at h <;> first | exact h.elim | skip
  all_goals try contradiction
  · rename_i w1
    obtain ⟨y, rfl, iy⟩ := iv.one
    split at h
    · rename_i hl
      obtain ⟨T', e1, e2, rm'⟩ := put _ _ (h2.append (.cons iy .nil))
      refine mt_append pins s σ T.H _ _ v us Q I rx rv ⟨a, zs, y, rfl, rfl, h1, by rw [h2.length]; exact hl, ?_⟩
      rw [← e1]
      exact h _ T' e2 rm' .non
    · exact h.elim
theorem m_pop : MtR X "list.pop" (fun x xs H Q => RMof X.K .pop x xs H Q) := by
  intro pins s σ H x xs v us Q I rx rv h
  obtain ⟨T, w, ws, M, rfl, rm, ix, iv, h⟩ := h
  obtain ⟨n, l, rfl, q, h⟩ := meth_cell (by decide) h
  obtain ⟨a, zs, rfl, h1, h2, put⟩ := cell_put rm ix q
  unfold methL at h
  split at h <;> first | exact h.elim | skip
  all_goals try contradiction
  · cases iv
    split at h
    · rename_i w1 hl
      obtain ⟨y, hy, iy⟩ := h2.get hl
      obtain ⟨T', e1, e2, rm'⟩ := put _ _ h2.dropLast
      refine mt_pop pins s σ T.H _ _ v us Q I rx rv ⟨a, zs, y, rfl, rfl, h1, by rw [h2.length]; exact hy, ?_⟩
      rw [← e1]
      exact h _ T' e2 rm' (iy.ext e2)
    · exact h.elim
theorem m_popAt : MtR X "list.pop" (fun x xs H Q => RMof X.K .popAt x xs H Q) := by
  intro pins s σ H x xs v us Q I rx rv h
  obtain ⟨T, w, ws, M, rfl, rm, ix, iv, h⟩ := h
  obtain ⟨n, l, rfl, q, h⟩ := meth_cell (by decide) h
  obtain ⟨a, zs, rfl, h1, h2, put⟩ := cell_put rm ix q
  unfold methL at h
  split at h <;> first | exact h.elim | skip
  all_goals try contradiction
  · rename_i i _ _
    obtain ⟨y, rfl, iy⟩ := iv.one
    cases iy
    split at h
    · rename_i w1 j hl hj
      rw [hj] at hl
      have hl : l[j]? = some w1 := hl
      obtain ⟨y, hy, iy⟩ := h2.get hl
      obtain ⟨T', e1, e2, rm'⟩ := put _ _ (h2.erase j)
      have hb := line63
      have hz : zs.length ≤ sizeLine := by
        obtain ⟨_, _, _, z⟩ := I.list (SqL.of h1)
        exact z
      have hj2 : ixN zs.length i = some j := by rw [h2.length]; exact hj
      obtain ⟨g1, g2, g3, g4⟩ := ixN_seq hj2
      refine mt_popAt pins s σ T.H _ _ v us Q I rx rv ⟨a, zs, i, j, y, rfl, rfl, h1, by omega, by omega, g1, hy, ?_⟩
      rw [← e1]
      exact h _ T' e2 rm' (iy.ext e2)
    · exact h.elim
theorem m_insert : MtR X "list.insert" (RMof X.K .insert) := by
  intro pins s σ H x xs v us Q I rx rv h
  obtain ⟨T, w, ws, M, rfl, rm, ix, iv, h⟩ := h
  obtain ⟨n, l, rfl, q, h⟩ := meth_cell (by decide) h
  obtain ⟨a, zs, rfl, h1, h2, put⟩ := cell_put rm ix q
  unfold methL at h
  split at h <;> first | exact h.elim | skip
  all_goals try contradiction
  · rename_i i w1 _ _
    obtain ⟨y0, y, rfl, i0, iy⟩ := iv.two
    cases i0
    split at h
    · rename_i hl
      obtain ⟨T', e1, e2, rm'⟩ := put _ _ (((h2.take i.toNat).append (.cons iy .nil)).append (h2.drop i.toNat))
      refine mt_insert pins s σ T.H _ _ v us Q I rx rv ⟨a, zs, i, y, rfl, rfl, h1, by rw [h2.length]; exact hl.1, hl.2.1, hl.2.2, ?_⟩
      rw [← e1]
      exact h _ T' e2 rm' .non
    · exact h.elim
theorem m_extend : MtR X "list.extend" (RMof X.K .extend) := by
  intro pins s σ H x xs v us Q I rx rv h
  obtain ⟨T, w, ws, M, rfl, rm, ix, iv, h⟩ := h
  obtain ⟨n, l, rfl, q, h⟩ := meth_cell (by decide) h
  obtain ⟨a, zs, rfl, h1, h2, put⟩ := cell_put rm ix q
  unfold methL at h
  split at h <;> first | exact h.elim | skip
  all_goals try contradiction
  · rename_i w1
    obtain ⟨y, rfl, iy⟩ := iv.one
    split at h
    · rename_i l2 hl2
      split at h
      · rename_i hl
        obtain ⟨b, ys, rfl, hb, iys, _⟩ := seqLst_is rm iy hl2
        obtain ⟨T', e1, e2, rm'⟩ := put _ _ (h2.append iys)
        refine mt_extend pins s σ T.H _ _ v us Q I rx rv ⟨a, b, zs, ys, rfl, rfl, h1, hb, by rw [h2.length, iys.length]; exact hl, ?_⟩
        rw [← e1]
        exact h _ T' e2 rm' .non
      · exact h.elim
    · exact h.elim
theorem ints_is {K : PySem.W.Frag} {T : Ws} : ∀ ns : List Int, IsVs K T (ns.map V.int) (ns.map Vl.int)
  | [] => .nil
  | n :: r => .cons (.int n) (ints_is r)
theorem m_remove : MtR X "list.remove" (RMof X.K .remove) := by
  intro pins s σ H x xs v us Q I rx rv h
  obtain ⟨T, w, ws, M, rfl, rm, ix, iv, h⟩ := h
  obtain ⟨n, l, rfl, q, h⟩ := meth_cell (by decide) h
  obtain ⟨a, zs, rfl, h1, h2, put⟩ := cell_put rm ix q
  unfold methL at h
  split at h <;> first | exact h.elim | skip
  all_goals try contradiction
  · rename_i k _ _
    obtain ⟨y, rfl, iy⟩ := iv.one
    cases iy
    split at h
    · rename_i ns hns
      obtain ⟨rfl, rfl⟩ := intsOf_is hns h2
      split at h
      · rename_i hk
        obtain ⟨T', e1, e2, rm'⟩ := put _ _ (ints_is (ns.erase k))
        have hj : ns[ns.idxOf k]? = some k := by
          have hlt := List.idxOf_lt_length_of_mem hk
          rw [List.getElem?_eq_getElem hlt, List.getElem_idxOf hlt]
        refine mt_remove pins s σ T.H _ _ v us Q I rx rv ⟨a, ns, k, ns.idxOf k, rfl, rfl, h1, hj, fun m hm z => ?_, ?_⟩
        · have := List.not_of_lt_findIdx (p := (· == k)) (xs := ns) (i := m) hm
          obtain ⟨hl, e⟩ := List.getElem?_eq_some_iff.mp z
          simp [e] at this
        · rw [← List.erase_eq_eraseIdx_of_idxOf (l := ns) (a := k) rfl, ← e1]
          exact h _ T' e2 rm' .non
      · exact h.elim
    · exact h.elim
end
section
variable {G : Pg} {Wx : WX} {cf : CF} {X : Cx} {o e : Expr} {c : E} {apos cpos : Pos}
theorem tyL {T : Ws} {M : Mm} {x : V} {w : Vl} {l : List Vl} (rm : RelM G.K T M) (ix : IsV G.K T x w) (q : seqLst M w = some l) : tyV G.K "list" x T.H := by
  obtain ⟨a, xs, rfl, h1, _⟩ := seqLst_is rm ix q
  exact .inl ⟨rfl, xs, SqL.of h1⟩
theorem x_meth {m : BM} {es : List Expr} {cs : Es} {id : String} {name : Str} (hK : G.K = X.K) (slot : Slot "list" name id) (hty : typeOf (.builtin id) = pure (.type "method_descriptor")) (hm : MtR X id (fun x xs H Q => RMof X.K m x xs H Q)) (ho : PE X o (TEx G Wx cf c)) (ha : PA X (e :: es) (TAx G Wx cf cs))
    (hbase : attributeBase o name X.env (eval o X.env) = eval o X.env)
    (hfew : ((backTo cpos (starEach (e :: es) X.env)).all (fun x => !x.1) && (backToKw cpos (keywordEach [] X.env)).all (fun x => x.1.isSome)
      && decide ((e :: es).length + ([] : List Keyword).length + (if ([] : List Keyword).isEmpty then 0 else 1) < 30)) = true)
    (hline : (apos.endLine == cpos.line) = true) (hs : starEach (e :: es) X.env = (false, eval e X.env) :: starEach es X.env) (hplain : (backTo cpos (starEach es X.env)).any (·.1) = false) :
    PE X (.Call (.Attribute o name apos) (e :: es) [] cpos) (TEx G Wx cf (.meth m c cs)) := by
  refine pe_weak (pe_bm PySem.F.plainAttrs_list slot hty hm ho ha hbase hfew hline hs hplain) fun s H Q h => ?_
  obtain ⟨T, σ, M, rfl, rm, rs, h⟩ := h
  simp only [evE] at h
  refine ⟨T, σ, M, rfl, rm, rs, h.bind XW.mono fun w M1 v T1 e1 rm1 i1 h1 => ?_⟩
  cases q : seqLst M1 w with
  | none => rw [q] at h1; exact h1.elim
  | some l =>
    rw [q] at h1
    refine ⟨hK ▸ tyL rm1 i1 q, T1, σ, M1, rfl, rm1, rs.ext e1, Sat.bind (r := evEs G.kl cf cs σ M1) XW.mono h1 fun ws M2 vs T2 e2 rm2 i2 h2 => ?_⟩
    rw [← hK]
    exact ⟨T2, w, ws, M2, rfl, rm2, i1.ext e2, i2, h2.calm calm_meth⟩
theorem x_meth0 {m : BM} {id : String} {name : Str} (hK : G.K = X.K) (slot : Slot "list" name id) (hty : typeOf (.builtin id) = pure (.type "method_descriptor")) (hm : MtR X id (fun x xs H Q => RMof X.K m x xs H Q)) (ho : PE X o (TEx G Wx cf c))
    (hbase : attributeBase o name X.env (eval o X.env) = eval o X.env) (hline : (apos.endLine == cpos.line) = true) :
    PE X (.Call (.Attribute o name apos) [] [] cpos) (TEx G Wx cf (.meth m c .nil)) := by
  refine pe_weak (pe_bm0 PySem.F.plainAttrs_list slot hty hm ho hbase hline) fun s H Q h => ?_
  obtain ⟨T, σ, M, rfl, rm, rs, h⟩ := h
  simp only [evE, evEs] at h
  refine ⟨T, σ, M, rfl, rm, rs, h.bind XW.mono fun w M1 v T1 e1 rm1 i1 h1 => ?_⟩
  cases q : seqLst M1 w with
  | none => rw [q] at h1; exact h1.elim
  | some l =>
    rw [q] at h1
    refine ⟨hK ▸ tyL rm1 i1 q, ?_⟩
    rw [← hK]
    exact ⟨T1, w, [], M1, rfl, rm1, i1, .nil, Sat.calm h1 calm_meth⟩
end
end Sg
end

section
set_option Elab.async false
set_option linter.all false
set_option maxRecDepth 100000
set_option maxHeartbeats 1000000
/-! Sg, part 9: targets, comprehensions. -/
namespace Sg
open PySem PySem.Spec PyProof.Rows L2

def tgNames : Tg → List Nat
  | .nm i => [i]
  | .tp l => l
theorem wipe_get : ∀ (σ : L2.St) (vs : List Nat) (i : Nat), (wipe σ vs)[i]? = if i ∈ vs ∧ i < σ.length then some none else σ[i]?
  | σ, [], i => by simp [wipe]
  | σ, v :: vs, i => by
    unfold wipe
    rw [List.getElem?_set, wipe_get σ vs i, wipe_length]
    by_cases h : v = i
    · subst h
      by_cases hl : v < σ.length
      · simp [hl]
      · simp [hl]
    · simp [h, Ne.symm h]
theorem wipe_set (σ : L2.St) (vs : List Nat) (i : Nat) (o : Option V) (h : i ∈ vs) : wipe (σ.set i o) vs = wipe σ vs := by
  apply List.ext_getElem?
  intro j
  rw [wipe_get, wipe_get, List.length_set]
  by_cases hj : j ∈ vs ∧ j < σ.length
  · rw [if_pos hj, if_pos hj]
  · rw [if_neg hj, if_neg hj, List.getElem?_set]
    by_cases e : i = j
    · subst e
      have : ¬ i < σ.length := fun z => hj ⟨h, z⟩
      simp [this]
    · simp [e]
theorem wipeS_rel {G : Pg} {T : Ws} {s : L2.St} {σ : Sl} (r : RelS G T s σ) : ∀ vs : List Nat, RelS G T (wipe s vs) (wipeS σ vs)
  | [] => r
  | v :: vs => by
    unfold wipe wipeS
    exact (wipeS_rel r vs).unset v none
section
variable (G : Pg)
def TGx (tg : Tg) : TG := fun v s H Q => ∃ T σ M w σ', T.H = H ∧ RelM G.K T M ∧ RelS G T s σ ∧ IsV G.K T v w ∧ bindT tg w σ M = some σ' ∧
  ∀ s', RelS G T s' σ' → (∀ vs : List Nat, (∀ i ∈ tgNames tg, i ∈ vs) → wipe s' vs = wipe s vs) → Q s' T.H
def TGn (l : List Nat) : TGs := fun us s H Q => ∃ T σ M ws, T.H = H ∧ RelM G.K T M ∧ RelS G T s σ ∧ IsVs G.K T us ws ∧ ws.length = l.length ∧
  ∀ s', RelS G T s' ((l.zip ws).foldl (fun σ p => σ.set p.1 (some p.2)) σ) → (∀ vs : List Nat, (∀ i ∈ l, i ∈ vs) → wipe s' vs = wipe s vs) → Q s' T.H
end
theorem pg_weak {X : Cx} {e : Expr} {t t' : TG} (h : PG X e t) (k : ∀ v s H Q, t' v s H Q → t v s H Q) : PG X e t' := ⟨fun pins s σ H v u Q I r q => h.run pins s σ H v u Q I r (k _ _ _ _ q)⟩
theorem pgs_weak {X : Cx} {e : List Expr} {t t' : TGs} (h : PGs X e t) (k : ∀ v s H Q, t' v s H Q → t v s H Q) : PGs X e t' := ⟨fun pins s σ H v u Q I r q => h.run pins s σ H v u Q I r (k _ _ _ _ q)⟩
section
variable {X : Cx} {G : Pg} {pos : Pos}
theorem g_name {i : Nat} {x : Str} (hN : X.N.Nodup) (hi : X.N[i]? = some x) (hx : Loc X.env.scope x) (hf : X.fn x = true ∨ X.env.scope.names.lookup x = some .local) : PG X (.Name x pos) (TGx G (.nm i)) := by
  refine pg_weak (pg_name hN hi hx hf) fun v s H Q h => ?_
  obtain ⟨T, σ, M, w, σ', rfl, rm, rs, iv, e, q⟩ := h
  cases e
  exact q _ (rs.set i iv) fun vs hv => wipe_set _ _ _ _ (hv i (by simp [tgNames]))
theorem g_nil : PGs X [] (TGn G []) := by
  refine pgs_weak pgs_nil fun v s H Q h => ?_
  obtain ⟨T, σ, M, ws, rfl, rm, rs, iv, hl, q⟩ := h
  cases ws with
  | nil => cases iv; exact ⟨rfl, q s rs fun _ _ => rfl⟩
  | cons a b => cases hl
theorem g_cons {e : Expr} {es : List Expr} {i : Nat} {l : List Nat} (h1 : PG X e (TGx G (.nm i))) (h2 : PGs X es (TGn G l))
    (hs : (assignEach (e :: es) X.env).map (·.2) = assign e X.env :: (assignEach es X.env).map (·.2)) : PGs X (e :: es) (TGn G (i :: l)) := by
  refine pgs_weak (pgs_cons h1 h2 hs) fun us s H Q h => ?_
  obtain ⟨T, σ, M, ws, rfl, rm, rs, iv, hl, q⟩ := h
  cases iv with
  | nil => cases hl
  | @cons x xs w ws ix ir =>
    refine ⟨x, xs, rfl, T, σ, M, w, _, rfl, rm, rs, ix, rfl, fun s' rs' hw => ?_⟩
    refine ⟨T, _, M, ws, rfl, rm, rs', ir, by simpa using hl, fun s2 rs2 hw2 => q s2 rs2 fun vs hv => ?_⟩
    rw [hw2 vs fun j hj => hv j (List.mem_cons_of_mem _ hj), hw vs fun j hj => hv j (by simp [tgNames] at hj; subst hj; exact List.mem_cons_self)]
theorem g_tup {es : List Expr} {k : Nat} {l : List Nat} (hK : G.K = X.K) (hc : X.calm = true) (h : PGs X es (TGn G l)) (hn : (assignEach es X.env).length = l.length) (hst : (assignEach es X.env).findIdx? (·.1) = none) : PG X (.Tuple es k pos) (TGx G (.tp l)) := by
  refine pg_weak (pg_tup (n := l.length) hc h hn hst) fun v s H Q h => ?_
  obtain ⟨T, σ, M, w, σ', rfl, rm, rs, iv, e, q⟩ := h
  unfold bindT at e
  cases w with
  | tup ws =>
    dsimp only at e
    split at e
    · rename_i hl
      cases e
      cases iv with
      | tup hz hs =>
        exact ⟨_, _, rfl, hK ▸ hz.sq, by rw [hs.length]; exact hl, T, σ, M, ws, rfl, rm, rs, hs, hl, q⟩
    · cases e
  | _ => cases e
end

/-! ### comprehensions -/
section
variable (G : Pg) (Wx : WX) (cf : CF)
def TCx (c : Es) : TT := fun s H Q => ∃ T σ M, T.H = H ∧ RelM G.K T M ∧ RelS G T s σ ∧ Sat G.K sameB (XW G Wx s) T (evCs G.kl cf c σ M) Q
end
theorem pts_weak {X : Cx} {l : List Expr} {t t' : TT} (h : PTs X l t) (k : ∀ s H Q, t' s H Q → t s H Q) : PTs X l t' := ⟨fun pins s σ H Q I q => h.run pins s σ H Q I (k _ _ _ q)⟩
section
variable {G : Pg} {Wx : WX} {cf : CF} {X : Cx}
theorem c_nil : PTs X [] (TCx G Wx cf .nil) := by
  refine pts_weak pts_nil fun s H Q h => ?_
  obtain ⟨T, σ, M, rfl, rm, rs, h⟩ := h
  simp only [evCs] at h
  exact h.here rm rfl
theorem c_one {e : Expr} {c : E} (h : PT X e (TTx G Wx cf c)) : PTs X [e] (TCx G Wx cf (.cons c .nil)) := by
  refine pts_weak (pts_one h) fun s H Q h => ?_
  obtain ⟨T, σ, M, rfl, rm, rs, h⟩ := h
  simp only [evCs] at h
  exact ⟨T, σ, M, rfl, rm, rs, h⟩
def noWX : WX := fun _ _ _ _ => False
theorem Sat.nox {α β : Type} {rel : Ws → β → α → Prop} {xw : Ws → String → List Vl → Mm → Prop} {T : Ws} {r : R α} {Q : β → Hp → Prop} (h : Sat G.K rel xw T r Q) (hc : ∀ c ws M, r ≠ .exc c ws M) : Sat G.K rel noX T r Q := h.calm hc
/-- what a comprehension makes -/
theorem lc_go {s : L2.St} {σ : Sl} {tg : Tg} {el : E} {cs : Es} {own : List Nat} {J : It} {g : Gd} {l : List Vl} {fz : Bool} {T1 : Ws} {M1 : Mm} {Q : VK} {xw : Ws → String → List Vl → Mm → Prop} (rm : RelM G.K T1 M1) (rs : RelS G T1 s σ) (it : ItOk G.K J T1 g l) (hown : ∀ i ∈ tgNames tg, i ∈ own)
    (h : Sat G.K (IsV G.K) xw T1 ((compL (fun x σ M => bindT tg x σ M) (fun σ M => evCs G.kl cf cs σ M) (fun σ M => evE G.kl cf el σ M) g (wipeS σ own) l [] M1).bind fun ws M2 => mkL fz ws M2) Q) (D : Addr) (hD : T1.H D = none) :
    ∃ W : Nat → Nat → Hp → Prop, (∃ m, W 0 m (upd T1.H D (.lst []))) ∧ ∀ i m H, W i m H →
      (J.stop i H ∧ Q (.ref D) H) ∨ (J.go i H ∧ ∃ Nx : Hp → Prop, (∀ H', Nx H' → ∃ m', m' < m ∧ W (i + 1) m' H') ∧ ∀ x H', J.yld i H x H' → TGx G tg x (wipe s own) H' fun σ2 H2 => wipe σ2 own = wipe s own ∧ TCx G noWX cf cs σ2 H2 fun b H3 =>
        if b = true then TEx G noWX cf el σ2 H3 fun y H4 => ∃ acc, H4 D = some (.lst acc) ∧ acc.length < sizeLine ∧ Nx (upd H4 D (.lst (acc ++ [y]))) else Nx H3) := by
  obtain ⟨T2, hT2, held, rm2⟩ := held_new rm hD (.lst [])
  let W : Nat → Nat → Hp → Prop := fun i m H => m = l.length - i ∧ i ≤ l.length ∧ ∃ T M acc ws, T.H = H ∧ Held T1 T D (.lst acc) ∧ RelM G.K T M ∧ IsVs G.K T acc ws ∧
    Sat G.K (IsV G.K) xw T1 ((compL (fun x σ M => bindT tg x σ M) (fun σ M => evCs G.kl cf cs σ M) (fun σ M => evE G.kl cf el σ M) g (wipeS σ own) (l.drop i) ws M).bind fun ws M2 => mkL fz ws M2) Q
  refine ⟨W, ⟨l.length, by simp, Nat.zero_le _, T2, M1, [], [], hT2, held, rm2, .nil, by simpa using h⟩, ?_⟩
  rintro i m H ⟨rfl, hi, T, M, acc, ws, rfl, hh, rmT, iw, h⟩
  by_cases hg : gdOk M g
  · by_cases hlt : i < l.length
    · right
      have hw : l[i]? = some l[i] := List.getElem?_eq_getElem hlt
      rw [List.drop_eq_getElem_cons hlt] at h
      simp only [compL, if_pos hg] at h
      refine ⟨it.go i T M _ hh.ext rmT hg hw, fun H' => W (i + 1) (l.length - (i + 1)) H', fun H' w => ⟨l.length - (i + 1), by omega, w⟩, fun x H' y => ?_⟩
      obtain ⟨T3, hT3, e3, rm3, ix⟩ := it.yld i T M _ x H' hh.ext rmT hg hw y
      have h3 := hh.more e3
      have rs3 : RelS G T3 (wipe s own) (wipeS σ own) := (wipeS_rel rs own).ext h3.ext
      cases hb : bindT tg l[i] (wipeS σ own) M with
      | none => rw [hb] at h; exact h.elim
      | some σ1 =>
        rw [hb] at h
        dsimp only at h
        refine ⟨T3, wipeS σ own, M, l[i], σ1, hT3, rm3, rs3, ix, hb, fun s4 rs4 hw4 => ?_⟩
        have hwo : wipe s4 own = wipe s own := by
          rw [hw4 own hown]
          apply List.ext_getElem?
          intro j
          rw [wipe_get, wipe_get, wipe_length]
          by_cases hj : j ∈ own ∧ j < s.length
          · rw [if_pos hj, if_pos hj]
          · rw [if_neg hj, if_neg hj]
        refine ⟨hwo, T3, σ1, M, rfl, rm3, rs4, ?_⟩
        cases hc : evCs G.kl cf cs σ1 M with
        | ok b M4 =>
          rw [hc] at h
          intro b' T4 e4 rm4 eb
          have eb : b' = b := eb
          subst eb
          have h4 := h3.more e4
          have i4 : IsVs G.K T4 acc ws := (iw.ext e3).ext e4
          cases b' with
          | false =>
            dsimp only at h
            simp only [Bool.false_eq_true, if_false]
            exact ⟨rfl, hlt, T4, M4, acc, ws, rfl, h4, rm4, i4, h⟩
          | true =>
            dsimp only at h
            simp only [if_true]
            refine ⟨T4, σ1, M4, rfl, rm4, rs4.ext e4, ?_⟩
            cases he : evE G.kl cf el σ1 M4 with
            | ok w M5 =>
              rw [he] at h
              dsimp only at h
              intro y T5 e5 rm5 iy
              have h5 := h4.more e5
              split at h
              · rename_i hz
                obtain ⟨T6, hT6, e6, h6, rm6⟩ := h5.put (.lst (acc ++ [y])) rm5
                refine ⟨acc, h5.at_, by rw [iw.length]; exact hz, rfl, hlt, T6, M5, acc ++ [y], ws ++ [w], hT6, h6, rm6, ?_, h⟩
                exact ((i4.ext e5).exw e6).append (.cons (iy.exw e6) .nil)
              · exact h.elim
            | exc a b d => rw [he] at h; exact h.elim
            | bad => rw [he] at h; exact h.elim
        | exc a b d => rw [hc] at h; exact h.elim
        | bad => rw [hc] at h; exact h.elim
    · left
      have ei : i = l.length := by omega
      subst ei
      refine ⟨it.stop T M hh.ext rmT hg, ?_⟩
      rw [List.drop_length] at h
      simp only [compL, if_pos hg, R.bind_ok] at h
      obtain ⟨w', M', T', q1, q2, q3, q4, q5⟩ := hh.done (fz := fz) rm.uH rmT iw
      rw [q1] at h
      rw [← q2]
      exact h _ T' q3 q4 q5
  · have : compL (fun x σ M => bindT tg x σ M) (fun σ M => evCs G.kl cf cs σ M) (fun σ M => evE G.kl cf el σ M) g (wipeS σ own) (l.drop i) ws M = .bad := by
      cases l.drop i <;> simp only [compL, if_neg hg]
    rw [this] at h
    exact h.elim
theorem lc_read {s : L2.St} {H : Hp} {Q : VK} {tg : Tg} {src : Sr} {el : E} {cs : Es} {own : List Nat} {fz : Bool} (hown : ∀ i ∈ tgNames tg, i ∈ own) (h : TEx G Wx cf (.comp fz el tg src cs own) s H Q) : tLc (TIx G Wx cf src) (TGx G tg) (TCx G noWX cf cs) (TEx G noWX cf el) own s H Q := by
  obtain ⟨T, σ, M, rfl, rm, rs, h⟩ := h
  simp only [evE] at h
  refine ⟨T, σ, M, rfl, rm, rs, h.bind XW.mono fun p M1 J T1 e1 rm1 it h1 => fun D hD => ?_⟩
  exact lc_go rm1 (rs.ext e1) it hown h1 D hD
theorem x_comp {tg : Tg} {src : Sr} {el : E} {cs : Es} {fz : Bool} {elt tgt iter : Expr} {ifs : List Expr} {scope : Scope} {own : List (Str × Nat)} {pos : Pos} (hc : X.calm = true) (hN : X.N.Nodup) (hown : ∀ i ∈ tgNames tg, i ∈ own.map (·.2)) (hi : PI X tgt iter (TIx G Wx cf src)) (ok : BlkOk X.N X.env.scope scope own)
    (hg : ∀ (s : Shared) (H : Hp) (C : Addr) (cl : List (Str × Addr)) (fp : List Addr), PG (X.blk s H scope (compEnvC scope cl C X.env) fp) tgt (TGx G tg)) (ht : ∀ (s : Shared) (H : Hp) (C : Addr) (cl : List (Str × Addr)) (fp : List Addr), PTs (X.blk s H scope (compEnvC scope cl C X.env) fp) ifs (TCx G noWX cf cs))
    (he : ∀ (s : Shared) (H : Hp) (C : Addr) (cl : List (Str × Addr)) (fp : List Addr), PE (X.blk s H scope (compEnvC scope cl C X.env) fp) elt (TEx G noWX cf el)) (hs : ∀ x, foldedSetIterable iter X.env x = pure x) :
    PE X (.ListComp elt [⟨tgt, iter, ifs, 0⟩] scope pos) (TEx G Wx cf (.comp fz el tg src cs (own.map (·.2)))) :=
  pe_weak (pe_lc hc hN hi ok hg ht he hs) fun _ _ _ h => lc_read hown h
end
end Sg
end

section
set_option Elab.async false
set_option linter.all false
set_option maxRecDepth 100000
set_option maxHeartbeats 1000000
/-! Sg, part 10: dict displays; statements. -/
namespace Sg
open PySem PySem.Spec PyProof.Rows L2

/-! ### dict displays -/
section
variable {K : PySem.W.Frag} {T : Ws}
abbrev KvIs (K : PySem.W.Frag) (T : Ws) : L2.Key × V → Vl × Vl → Prop := fun p q => keyOf q.1 = some p.1 ∧ IsV K T p.2 q.2
theorem kv_put {k : Vl} {kk : L2.Key} {v : V} {w : Vl} (hk : keyOf k = some kk) (iv : IsV K T v w) {kv : List (L2.Key × V)} {kvs : List (Vl × Vl)} (h : Paired (KvIs K T) kv kvs) : Paired (KvIs K T) (L2.putK kv kk v) (putK k w kvs) := by
  have any : (kv.any fun p => decide (p.1 = kk)) = (kvs.any fun p => decide (keyOf p.1 = keyOf k)) := by
    induction h with
    | nil => rfl
    | @cons a b as bs h1 h2 ih =>
      rw [List.any_cons, List.any_cons, ih, h1.1, hk]
      congr 1
      simp
  unfold L2.putK putK
  rw [any]
  split
  · rename_i hh
    clear hh any
    induction h with
    | nil => exact .nil
    | @cons a b as bs h1 h2 ih =>
      rw [List.map_cons, List.map_cons]
      refine .cons ?_ ih
      by_cases e : a.1 = kk
      · rw [if_pos e, if_pos (by rw [h1.1, hk, e])]
        exact ⟨h1.1, iv⟩
      · rw [if_neg e, if_neg (by rw [h1.1, hk]; exact fun z => e (Option.some.inj z))]
        exact h1
  · exact pairedApp h (.cons ⟨hk, iv⟩ .nil)
theorem kv_merge : ∀ {more : List (L2.Key × V)} {mv : List (Vl × Vl)} {kv : List (L2.Key × V)} {kvs : List (Vl × Vl)}, Paired (KvIs K T) more mv → Paired (KvIs K T) kv kvs →
    Paired (KvIs K T) (L2.mergeK kv more) (mv.foldl (fun acc p => putK p.1 p.2 acc) kvs)
  | _, _, _, _, .nil, h => h
  | _, _, _, _, .cons h1 h2, h => by
    have q := kv_merge h2 (kv_put h1.1 h1.2 h)
    exact q
end
section
variable {G : Pg} {Wx : WX} {cf : CF} {X : Cx} {pos : Pos}
/-- written keys -/
inductive KsOk (X : Cx) : List (Option Expr) → Es → Prop
  | nil : KsOk X [] .nil
  | cons {k : Expr} {ks : List (Option Expr)} {w : Vl} {es : Es} {kk : L2.Key} (hk : keyOf w = some kk) (h : PE X k (tC (kV kk))) (r : KsOk X ks es) : KsOk X (some k :: ks) (.cons (.cst w) es)
/-- the values of a display -/
inductive VsOk (X : Cx) (G : Pg) (Wx : WX) (cf : CF) : List Expr → Es → Prop
  | nil : VsOk X G Wx cf [] .nil
  | cons {e : Expr} {es : List Expr} {c : E} {cs : Es} (h : PE X e (TEx G Wx cf c)) (r : VsOk X G Wx cf es cs) : VsOk X G Wx cf (e :: es) (.cons c cs)
theorem pairs_go {keys : List (Option Expr)} {ks : Es} (hk : KsOk X keys ks) : ∀ {values : List Expr} {vs : Es}, VsOk X G Wx cf values vs → keys.length = values.length →
    ∃ trs kk ws, evKs ks = some ws ∧ PPs X pos keys values trs ∧ Paired (fun w k => keyOf w = some k) ws kk ∧
      ∀ s H Q, TAx G Wx cf vs s H (fun us H1 => Q ((kk.map kV).zip us) H1) → tPairs trs s H Q := by
  induction hk with
  | nil =>
    intro values vs hv hl
    cases hv with
    | cons _ _ => cases hl
    | nil =>
      refine ⟨[], [], [], rfl, pps_nil, .nil, fun s H Q h => ?_⟩
      obtain ⟨T, σ, M, rfl, rm, rs, h⟩ := h
      simp only [evEs] at h
      exact h.here rm .nil
  | @cons k ks w es kk hk hpe r ih =>
    intro values vs hv hl
    cases hv with
    | nil => cases hl
    | @cons e es' c cs he hr =>
      obtain ⟨trs, kks, ws, e1, p1, e2, f⟩ := ih hr (by simpa using hl)
      refine ⟨(tC (kV kk), TEx G Wx cf c) :: trs, kk :: kks, w :: ws, by simp [evKs, e1], pps_cons hpe he p1, .cons hk e2, fun s H Q h => ?_⟩
      show tPairs ((tC (kV kk), TEx G Wx cf c) :: trs) s H Q
      obtain ⟨T, σ, M, rfl, rm, rs, h⟩ := h
      simp only [evEs] at h
      refine ⟨T, σ, M, rfl, rm, rs, h.bind XW.mono fun w1 M1 v T1 e1 rm1 i1 h1 => f _ _ _ ⟨T1, σ, M1, rfl, rm1, rs.ext e1, h1.bind XW.mono fun ws M2 vs T2 e2 rm2 i2 h2 => ?_⟩⟩
      exact h2.here rm2 (.cons (i1.ext e2) i2)
theorem kk_len {ws : List Vl} {kk : List L2.Key} (h : Paired (fun w k => keyOf w = some k) ws kk) : ws.length = kk.length := pairedLen h
theorem zip_kv {K : PySem.W.Frag} {T : Ws} : ∀ {ws : List Vl} {kk : List L2.Key} {us : List V} {zs : List Vl}, Paired (fun w k => keyOf w = some k) ws kk → IsVs K T us zs → Paired (KvIs K T) (kk.zip us) (ws.zip zs)
  | _, _, _, _, .nil, _ => by simpa using Paired.nil
  | _, _, _, _, .cons _ _, .nil => by simpa using Paired.nil
  | _, _, _, _, .cons h r, .cons i j => by
    rw [List.zip_cons_cons, List.zip_cons_cons]
    exact .cons ⟨h, i⟩ (zip_kv r j)
theorem ks_len : ∀ {keys : List (Option Expr)} {ks : Es} {ws : List Vl}, KsOk X keys ks → evKs ks = some ws → ws.length = keys.length
  | _, _, _, .nil, h => by simp [evKs] at h; subst h; rfl
  | _, _, _, .cons (ks := ks) (es := es) _ _ r, h => by
    simp only [evKs] at h
    cases q : evKs es with
    | none => rw [q] at h; cases h
    | some ws' =>
      rw [q] at h
      cases h
      rw [List.length_cons, List.length_cons, ks_len r q]
theorem x_dct {keys : List (Option Expr)} {values : List Expr} {ks vs : Es} (hk : KsOk X keys ks) (hv : VsOk X G Wx cf values vs) (hall : keys.all (·.isSome) = true) (hl : keys.length = values.length) (h0 : keys ≠ []) (h15 : keys.length ≤ 15) :
    PE X (.Dict keys values pos) (TEx G Wx cf (.dct ks vs)) := by
  obtain ⟨trs, kk, ws, e1, p1, e2, f⟩ := pairs_go (pos := pos) hk hv hl
  refine pe_weak (pe_disp p1 hall hl h0 h15) fun s H Q h => ?_
  obtain ⟨T, σ, M, rfl, rm, rs, h⟩ := h
  simp only [evE, e1] at h
  intro p hp
  obtain ⟨T1, hT1, held, rm1⟩ := held_new rm hp (.dK [])
  rw [← hT1]
  refine f _ _ _ ⟨T1, σ, M, rfl, rm1, rs.ext held.ext, ?_⟩
  cases q : evEs G.kl cf vs σ M with
  | ok zs M2 =>
    rw [q] at h
    simp only [R.bind_ok] at h
    intro us T2 e2' rm2 i2
    have h2' := held.more e2'
    split at h
    · rename_i hz
      have len : kk.length = us.length := by rw [← kk_len e2, hz.1, i2.length]
      refine ⟨h2'.at_, kk.zip us, ?_, ?_, ?_⟩
      · rw [List.zip_map_left]
        apply List.map_congr_left
        intro a _
        rfl
      · rw [List.length_zip, len, Nat.min_self, i2.length, ← hz.1, ks_len hk e1]
        exact h15
      · obtain ⟨T3, hT3, e3, h3, rm3⟩ := h2'.put (.dK (L2.mergeK [] (kk.zip us))) rm2
        have pk := kv_merge (K := G.K) (T := T2) (zip_kv e2 i2) (.nil : Paired (KvIs G.K T2) [] [])
        obtain ⟨T4, q1, q2, q3, q4, q5⟩ := h3.cell rm3 (.dct (mkD (ws.zip zs))) fun T' hT' e' => ⟨_, by rw [hT']; exact h3.at_, pairedMap pk fun x y _ z => ⟨z.1, (z.2.exw e3).exw e'⟩⟩
        rw [← hT3, ← q1]
        exact h _ T4 q2 q3 q4
    · exact h.elim
  | exc a b d => rw [q] at h; exact XW.mono _ _ _ _ _ held.ext h
  | bad => rw [q] at h; exact h
theorem x_dct0 : PE X (.Dict [] [] pos) (TEx G Wx cf (.dct .nil .nil)) := by
  refine pe_weak pe_dnewK fun s H Q h => ?_
  obtain ⟨T, σ, M, rfl, rm, rs, h⟩ := h
  simp only [evE, evEs, evKs, R.bind_ok] at h
  intro p hp
  obtain ⟨e2, rm2⟩ := fresh_cell rm hp (.dK []) (.dct []) fun T' hT' e' => ⟨[], by rw [hT', upd_same], .nil⟩
  refine h (.ref p) _ e2 rm2 (.ref ?_)
  show (T.as ++ [p])[M.length]? = some p
  rw [← pairedLen rm.ce]
  simp
theorem x_dic : PE X (.Dict [] [] pos) (TEx G Wx cf .dic) := by
  refine pe_weak pe_dnewK fun s H Q h => ?_
  obtain ⟨T, σ, M, rfl, rm, rs, h⟩ := h
  simp only [evE] at h
  intro p hp
  obtain ⟨e2, rm2, np⟩ := fresh_fz rm hp (.dK [])
  exact h (.ref p) _ e2 rm2 (.dic ⟨upd_same, np⟩)
end

/-! ### statements -/
def SatS (G : Pg) (Wx : WX) (T : Ws) (r : RS) (D : Ends) : Prop :=
  match r with
  | .nx σ M => ∀ T' s', Ext T T' → RelM G.K T' M → RelS G T' s' σ → D.nx s' T'.H
  | .brk σ M => ∀ T' s', Ext T T' → RelM G.K T' M → RelS G T' s' σ → D.bk s' T'.H
  | .cnt σ M => ∀ T' s', Ext T T' → RelM G.K T' M → RelS G T' s' σ → D.ct s' T'.H
  | .ret w M => ∀ v T', Ext T T' → RelM G.K T' M → IsV G.K T' v w → D.rt v T'.H
  | .exc c ws σ M => ∀ cls d T' s', Ext T T' → RelM G.K T' M → RelS G T' s' σ → IsX G T' cls d c ws → Wx cls d s' T'.H
  | .bad => False
theorem SatS.ext {G : Pg} {Wx : WX} {T T1 : Ws} {r : RS} {D : Ends} (e : Ext T T1) (h : SatS G Wx T r D) : SatS G Wx T1 r D := by
  cases r with
  | nx σ M => exact fun T' s' e' => h T' s' (e.trans e')
  | brk σ M => exact fun T' s' e' => h T' s' (e.trans e')
  | cnt σ M => exact fun T' s' e' => h T' s' (e.trans e')
  | ret w M => exact fun v T' e' => h v T' (e.trans e')
  | exc c ws σ M => exact fun cls d T' s' e' => h cls d T' s' (e.trans e')
  | bad => exact h
section
variable (G : Pg) (Wx : WX) (cf : CF)
def TSx (c : S) : TS := fun D s H => ∃ T σ M, T.H = H ∧ RelM G.K T M ∧ RelS G T s σ ∧ SatS G Wx T (evS G.kl cf c σ M) D
def TSsx (c : Ss) : TS := fun D s H => ∃ T σ M, T.H = H ∧ RelM G.K T M ∧ RelS G T s σ ∧ SatS G Wx T (evSs G.kl cf c σ M) D
end
section
variable {G : Pg} {Wx : WX} {cf : CF} {X : Cx} {pos : Pos} {D : Ends} {s : L2.St}
/-- an expression's answer first -/
theorem SatS.thn {α β : Type} {rel : Ws → β → α → Prop} {T : Ws} {r : R α} {σ : Sl} {f : α → Mm → RS} {P : β → Hp → Prop} (rs : RelS G T s σ) (h : SatS G Wx T (r.thn σ f) D)
    (k : ∀ w M1 v T1, Ext T T1 → RelM G.K T1 M1 → rel T1 v w → SatS G Wx T1 (f w M1) D → P v T1.H) : Sat G.K rel (XW G Wx s) T r P := by
  cases r with
  | ok w M => exact fun v T1 e rm i => k w M v T1 e rm i (h.ext e)
  | exc c ws M => exact fun cls d T' e rm ix => h cls d T' s e rm (rs.ext e) ix
  | bad => exact h
/-! #### blocks -/
theorem ss_nil : PSs X [] (TSsx G Wx cf .nil) := by
  refine pss_weak pss_nil fun D s H h => ?_
  obtain ⟨T, σ, M, rfl, rm, rs, h⟩ := h
  simp only [evSs] at h
  exact h T s (Ext.refl T) rm rs
theorem ss_cons {st : Stmt} {rest : List Stmt} {c : S} {r : Ss} (h1 : PS X st (TSx G Wx cf c)) (h2 : PSs X rest (TSsx G Wx cf r)) : PSs X (st :: rest) (TSsx G Wx cf (.cons c r)) := by
  refine pss_weak (pss_cons h1 h2) fun D s H h => ?_
  obtain ⟨T, σ, M, rfl, rm, rs, h⟩ := h
  simp only [evSs] at h
  refine ⟨T, σ, M, rfl, rm, rs, ?_⟩
  cases q : evS G.kl cf c σ M with
  | nx σ1 M1 =>
    rw [q] at h
    simp only [RS.thn_nx] at h
    exact fun T' s' e' rm' rs' => ⟨T', σ1, M1, rfl, rm', rs', h.ext e'⟩
  | _ => rw [q] at h; exact h
/-! #### simple ones -/
theorem s_pass : PS X (.Pass pos) (TSx G Wx cf .pass) := by
  refine ps_weak ps_pass fun D s H h => ?_
  obtain ⟨T, σ, M, rfl, rm, rs, h⟩ := h
  simp only [evS] at h
  exact h T s (Ext.refl T) rm rs
theorem s_brk : PS X (.Break pos) (TSx G Wx cf .brk) := by
  refine ps_weak ps_break fun D s H h => ?_
  obtain ⟨T, σ, M, rfl, rm, rs, h⟩ := h
  simp only [evS] at h
  exact h T s (Ext.refl T) rm rs
theorem s_cnt : PS X (.Continue pos) (TSx G Wx cf .cnt) := by
  refine ps_weak ps_continue fun D s H h => ?_
  obtain ⟨T, σ, M, rfl, rm, rs, h⟩ := h
  simp only [evS] at h
  exact h T s (Ext.refl T) rm rs
variable {e e1 e2 e3 : Expr} {c c1 c2 c3 : E}
theorem s_expr (he : PE X e (TEx G Wx cf c)) (hs : swapsWith e none pos.line X.env = pure false) : PS X (.Expr e pos) (TSx G Wx cf (.expr c)) := by
  refine ps_weak (ps_expr he hs) fun D s H h => ?_
  obtain ⟨T, σ, M, rfl, rm, rs, h⟩ := h
  simp only [evS] at h
  exact ⟨T, σ, M, rfl, rm, rs, SatS.thn rs h fun w M1 v T1 e1 rm1 i1 h1 => h1 T1 s (Ext.refl _) rm1 (rs.ext e1)⟩
theorem s_ret (he : PE X e (TEx G Wx cf c)) : PS X (.Return (some e) pos) (TSx G Wx cf (.ret c)) := by
  refine ps_weak (ps_ret he) fun D s H h => ?_
  obtain ⟨T, σ, M, rfl, rm, rs, h⟩ := h
  simp only [evS] at h
  exact ⟨T, σ, M, rfl, rm, rs, SatS.thn rs h fun w M1 v T1 e1 rm1 i1 h1 => h1 v T1 (Ext.refl _) rm1 i1⟩
theorem s_retN : PS X (.Return none pos) (TSx G Wx cf .retN) := by
  refine ps_weak ps_retN fun D s H h => ?_
  obtain ⟨T, σ, M, rfl, rm, rs, h⟩ := h
  simp only [evS] at h
  exact h .non T (Ext.refl T) rm .non
theorem s_ife {a b : List Stmt} {ca cb : Ss} (hc : PT X e (TTx G Wx cf c)) (ha : PSs X a (TSsx G Wx cf ca)) (hb : PSs X b (TSsx G Wx cf cb)) : PS X (.If e a b pos) (TSx G Wx cf (.ife c ca cb)) := by
  refine ps_weak (ps_if hc ha hb) fun D s H h => ?_
  obtain ⟨T, σ, M, rfl, rm, rs, h⟩ := h
  simp only [evS] at h
  refine ⟨T, σ, M, rfl, rm, rs, ?_⟩
  unfold evB
  cases q : evE G.kl cf c σ M with
  | ok w M1 =>
    rw [q] at h
    simp only [R.bind_ok, R.thn_ok] at h ⊢
    cases q2 : tru M1 w with
    | none => rw [q2] at h; exact h.elim
    | some b =>
      rw [q2] at h
      intro b' T1 e1 rm1 i1
      have i1' : b' = b := i1
      subst i1'
      cases b' with
      | true => exact ⟨T1, σ, M1, rfl, rm1, rs.ext e1, h.ext e1⟩
      | false => exact ⟨T1, σ, M1, rfl, rm1, rs.ext e1, h.ext e1⟩
  | exc a b d => rw [q] at h; exact fun cls d' T' e rm' ix => h cls d' T' s e rm' (rs.ext e) ix
  | bad => rw [q] at h; exact h
/-! #### stores -/
theorem s_set {i : Nat} {x : Str} {pos' : Pos} (hN : X.N.Nodup) (hi : X.N[i]? = some x) (hx : Loc X.env.scope x) (he : PE X e (TEx G Wx cf c)) (hs : swapsWith e (some (.Name x pos')) pos.line X.env = pure false) (hf : X.fn x = true ∨ X.env.scope.names.lookup x = some .local) :
    PS X (.Assign [.Name x pos'] e pos) (TSx G Wx cf (.set i c)) := by
  refine ps_weak (ps_set hN hi hx he hs hf) fun D s H h => ?_
  obtain ⟨T, σ, M, rfl, rm, rs, h⟩ := h
  simp only [evS] at h
  exact ⟨T, σ, M, rfl, rm, rs, SatS.thn rs h fun w M1 v T1 e1 rm1 i1 h1 => h1 T1 _ (Ext.refl _) rm1 ((rs.ext e1).set i i1)⟩
theorem s_setC {i : Nat} {x : Str} {py : Pos} {spos : Pos} {tg : Tg} {src : Sr} {el : E} {cs : Es} {fz : Bool} {elt tgt iter : Expr} {ifs : List Expr} {scope : Scope} {own : List (Str × Nat)} (hc : X.calm = true) (hN : X.N.Nodup) (hi' : X.N[i]? = some x) (hyl : X.env.scope.names.lookup x = some .local)
    (hsw : swapsWith (.ListComp elt [⟨tgt, iter, ifs, 0⟩] scope pos) (some (.Name x py)) spos.line X.env = pure true) (hown : ∀ i ∈ tgNames tg, i ∈ own.map (·.2)) (hi : PI X tgt iter (TIx G Wx cf src)) (ok : BlkOk X.N X.env.scope scope own)
    (hg : ∀ (s : Shared) (H : Hp) (C : Addr) (cl : List (Str × Addr)) (fp : List Addr), PG (X.blk s H scope (compEnvC scope cl C X.env) fp) tgt (TGx G tg)) (ht : ∀ (s : Shared) (H : Hp) (C : Addr) (cl : List (Str × Addr)) (fp : List Addr), PTs (X.blk s H scope (compEnvC scope cl C X.env) fp) ifs (TCx G noWX cf cs))
    (he : ∀ (s : Shared) (H : Hp) (C : Addr) (cl : List (Str × Addr)) (fp : List Addr), PE (X.blk s H scope (compEnvC scope cl C X.env) fp) elt (TEx G noWX cf el)) (hs : ∀ x, foldedSetIterable iter X.env x = pure x) :
    PS X (.Assign [.Name x py] (.ListComp elt [⟨tgt, iter, ifs, 0⟩] scope pos) spos) (TSx G Wx cf (.set i (.comp fz el tg src cs (own.map (·.2))))) := by
  refine ps_weak (ps_setLc hc hN hi' hyl hsw hi ok hg ht he hs) fun D s H h => ?_
  obtain ⟨T, σ, M, rfl, rm, rs, h⟩ := h
  simp only [evS] at h
  refine lc_read hown ⟨T, σ, M, rfl, rm, rs, SatS.thn rs h fun w M1 v T1 e1 rm1 i1 h1 => ?_⟩
  exact h1 T1 _ (Ext.refl _) rm1 ((rs.ext e1).set i i1)
theorem setAll_eq (l : List Nat) (ws : List Vl) (σ : Sl) : (l.zip ws).foldl (fun σ p => σ.set p.1 (some p.2)) σ = setAll l ws σ := rfl
theorem s_setT {es : List Expr} {k : Nat} {tp : Pos} {l : List Nat} (he : PE X e (TEx G Wx cf c)) (hg : PG X (.Tuple es k tp) (TGx G (.tp l))) (hs : swapsWithSole [.Tuple es k tp] e pos.line X.env = pure false) (hw : swappedStores [.Tuple es k tp] e X.env = pure none)
    (h1 : (assignEach [.Tuple es k tp] X.env).map (·.2) = [assign (.Tuple es k tp) X.env]) : PS X (.Assign [.Tuple es k tp] e pos) (TSx G Wx cf (.setT l c)) := by
  refine ps_weak (ps_asg he hg hs hw h1) fun D s H h => ?_
  obtain ⟨T, σ, M, rfl, rm, rs, h⟩ := h
  simp only [evS] at h
  refine ⟨T, σ, M, rfl, rm, rs, SatS.thn rs h fun w M1 v T1 e1 rm1 i1 h1 => ?_⟩
  cases w with
  | tup ws =>
    dsimp only at h1
    split at h1
    · rename_i hl
      exact ⟨T1, σ, M1, .tup ws, _, rfl, rm1, rs.ext e1, i1, by unfold bindT; dsimp only; rw [if_pos hl]; rfl, fun s' rs' _ => h1 T1 s' (Ext.refl _) rm1 rs'⟩
    · exact h1.elim
  | _ => exact h1.elim
theorem s_par2 {i j : Nat} {x y : Str} {px py pt : Pos} {kt k2 : Nat} {pt2 : Pos} (hc : X.calm = true) (hN : X.N.Nodup) (hi : X.N[i]? = some x) (hj : X.N[j]? = some y) (hij : i ≠ j)
    (hx : X.env.scope.names.lookup x = some .local) (hy : X.env.scope.names.lookup y = some .local) (ha : PA X [e1, e2] (TAx G Wx cf (.cons c1 (.cons c2 .nil))))
    (hw : swappedStores [.Tuple [.Name x px, .Name y py] kt pt] (.Tuple [e1, e2] k2 pt2) X.env = pure (some [x, y]))
    (hs : swapsWithSole [.Tuple [.Name x px, .Name y py] kt pt] (.Tuple [e1, e2] k2 pt2) pos.line X.env = pure false) :
    PS X (.Assign [.Tuple [.Name x px, .Name y py] kt pt] (.Tuple [e1, e2] k2 pt2) pos) (TSx G Wx cf (.par [i, j] (.cons c1 (.cons c2 .nil)))) := by
  refine ps_weak (ps_par hc hN hi hj hij hx hy ha hw hs) fun D s H h => ?_
  obtain ⟨T, σ, M, rfl, rm, rs, h⟩ := h
  simp only [evS] at h
  refine ⟨T, σ, M, rfl, rm, rs, SatS.thn rs h fun ws M1 vs T1 ex1 rm1 i1 h1 => ?_⟩
  split at h1
  · rename_i hl
    match ws, hl, i1, h1 with
    | [w1, w2], hl, i1, h1 =>
      obtain ⟨v, w, rfl, iv, iw⟩ := i1.two
      exact ⟨v, w, rfl, h1 T1 _ (Ext.refl _) rm1 (((rs.ext ex1).set i iv).set j iw)⟩
  · exact h1.elim
theorem s_par3 {i j l : Nat} {x y z : Str} {px py pz pt : Pos} {kt k2 : Nat} {pt2 : Pos} (hc : X.calm = true) (hN : X.N.Nodup) (hi : X.N[i]? = some x) (hj : X.N[j]? = some y) (hl : X.N[l]? = some z) (hij : i ≠ j) (hil : i ≠ l) (hjl : j ≠ l)
    (hx : X.env.scope.names.lookup x = some .local) (hy : X.env.scope.names.lookup y = some .local) (hz : X.env.scope.names.lookup z = some .local) (ha : PA X [e1, e2, e3] (TAx G Wx cf (.cons c1 (.cons c2 (.cons c3 .nil)))))
    (hw : swappedStores [.Tuple [.Name x px, .Name y py, .Name z pz] kt pt] (.Tuple [e1, e2, e3] k2 pt2) X.env = pure (some [x, y, z]))
    (hs : swapsWithSole [.Tuple [.Name x px, .Name y py, .Name z pz] kt pt] (.Tuple [e1, e2, e3] k2 pt2) pos.line X.env = pure false) :
    PS X (.Assign [.Tuple [.Name x px, .Name y py, .Name z pz] kt pt] (.Tuple [e1, e2, e3] k2 pt2) pos) (TSx G Wx cf (.par [i, j, l] (.cons c1 (.cons c2 (.cons c3 .nil))))) := by
  refine ps_weak (ps_par3 hc hN hi hj hl hij hil hjl hx hy hz ha hw hs) fun D s H h => ?_
  obtain ⟨T, σ, M, rfl, rm, rs, h⟩ := h
  simp only [evS] at h
  refine ⟨T, σ, M, rfl, rm, rs, SatS.thn rs h fun ws M1 vs T1 ex1 rm1 i1 h1 => ?_⟩
  split at h1
  · rename_i hl
    match ws, hl, i1, h1 with
    | [w1, w2, w3], hl, i1, h1 =>
      cases i1 with
      | cons iu i1 =>
        obtain ⟨v, w, rfl, iv, iw⟩ := i1.two
        exact ⟨_, v, w, rfl, h1 T1 _ (Ext.refl _) rm1 ((((rs.ext ex1).set i iu).set j iv).set l iw)⟩
  · exact h1.elim
end
section
variable {X : Cx}
/-- o[i] = v by values -/
def SETof (K : PySem.W.Frag) : TSet := fun o i v H Q => ∃ T wo wi w M M', T.H = H ∧ RelM K T M ∧ IsV K T o wo ∧ IsV K T i wi ∧ IsV K T v w ∧ setIV wo wi w M = some M' ∧ ∀ T', Ext T T' → RelM K T' M' → Q T'.H
theorem set_allW (hu : X.A.units + 200 < cLine) : PSet X (SETof X.K) := by
  intro pins s σ H o i v ov iv u Q I ro ri rv h
  obtain ⟨T, wo, wi, w, M, M', rfl, rm, io, ii, iw, e, q⟩ := h
  unfold setIV at e
  split at e
  · rename_i n
    split at e
    · rename_i l hm
      split at e
      · rename_i k
        cases hp : place l.length k with
        | none => rw [hp] at e; cases e
        | some j =>
          rw [hp] at e
          cases e
          obtain ⟨a, ha, _, xs, h1, h2⟩ := rm.get hm
          obtain ⟨e2, rm2⟩ := put_cell rm ha (.lst (xs.set j v)) (.lst (l.set j w)) fun T' hT e' => ⟨xs.set j v, by rw [hT, upd_same], (h2.ext e').set (iw.ext e') j⟩
          cases io with
          | ref hb =>
            rw [ha] at hb
            cases hb
            cases ii
            exact set_list pins s σ T.H _ _ v ov iv u Q I ro ri rv ⟨a, xs, k, j, rfl, rfl, h1, by rw [h2.length]; exact hp, q _ e2 rm2⟩
      · cases e
    · rename_i kvs hm
      split at e
      · rename_i kk hk
        split at e
        · rename_i hz
          cases e
          obtain ⟨a, ha, _, kv, h1, h2⟩ := rm.get hm
          obtain ⟨e2, rm2⟩ := put_cell rm ha (.dK (L2.putK kv kk v)) (.dct (putK wi w kvs)) fun T' hT e' => ⟨L2.putK kv kk v, by rw [hT, upd_same], kv_put hk (iw.ext e') (pairedMap h2 fun x y _ z => ⟨z.1, z.2.ext e'⟩)⟩
          cases io with
          | ref hb =>
            rw [ha] at hb
            cases hb
            have ey := keyOf_is ii hk
            subst ey
            exact set_dict (by omega) pins s σ T.H _ _ v ov iv u Q I ro ri rv ⟨a, _, rfl, .k h1 (by rw [pairedLen h2]; exact hz), q _ e2 rm2⟩
        · cases e
      · cases e
    · cases e
  · cases e
/-- o[i] by values, for o[i] += .. -/
def GETof (K : PySem.W.Frag) : V → V → Hp → VK → Prop := fun o i H Q => ∃ T wo wi M, T.H = H ∧ RelM K T M ∧ IsV K T o wo ∧ IsV K T i wi ∧ SatV K T (augGet wo wi M) Q
theorem get_allW : PGet X (GETof X.K) := by
  intro pins s σ H o i ov iv Q I ro ri h
  obtain ⟨T, wo, wi, M, rfl, rm, io, ii, h⟩ := h
  unfold augGet at h
  split at h
  · rename_i n k
    cases q : cellL M n with
    | none => rw [q] at h; exact h.elim
    | some l =>
      rw [q] at h
      obtain ⟨a, xs, rfl, h1, h2, _⟩ := cell_put rm io q
      cases q2 : (place l.length k).bind fun j => l[j]? with
      | none => rw [Option.bind_some, q2] at h; exact h.elim
      | some w =>
        rw [Option.bind_some, q2] at h
        obtain ⟨z, hz, iz⟩ := place_at h2 q2
        cases ii
        cases ro
        obtain ⟨t, rfl⟩ := ri
        obtain ⟨its, r, pl, hsz⟩ := I.list (SqL.of (K := X.K) h1)
        obtain ⟨j, g1, g2, g3, g4, g5⟩ := atI_get hz
        obtain ⟨u, eu, ru⟩ := r.get g2
        have hl := r.length
        have hn := line63
        have fin : EP X pins σ Q u s := ⟨z, T.H, I, ru, h.here rm iz⟩
        by_cases h0 : 0 ≤ k
        · have hj : k.toNat = j := by
            rw [seqIndex_of h0 g5] at g1
            exact Option.some.inj g1
          exact wpAny_getItem_list pl.isList h0 (by omega) (by rw [hj]; simpa using eu) fin
        · have hj : (k + (its.toArray.size : Int)).toNat = j := by
            rw [seqIndex_neg (by omega) g4] at g1
            rw [List.size_toArray, ← hl]
            exact Option.some.inj g1
          exact wpAny_getItem_list_neg pl.isList (by omega) (by rw [List.size_toArray] <;> omega) (by omega) (by rw [hj]; simpa using eu) fin
  · exact h.elim
theorem calm_aug {x y : Vl} {M : Mm} : Calm (augGet x y M) := by
  intro c ws M' h
  unfold augGet at h
  split at h
  · exact calm_of _ _ _ h
  · cases h
end
section
variable {G : Pg} {Wx : WX} {cf : CF} {X : Cx} {pos tpos : Pos} {D : Ends} {s : L2.St} {e o i : Expr} {c co ci : E}
theorem s_setI (hK : G.K = X.K) (hu : X.A.units + 200 < cLine) (ho : PE X o (TEx G Wx cf co)) (hi : PE X i (TEx G Wx cf ci)) (he : PE X e (TEx G Wx cf c))
    (ha : ∀ v, assign (.Subscript o i tpos) X.env v = (do
      let ov ← holding [v] (eval o X.env)
      let iv ← holding [v, ov] (eval i X.env)
      standAt tpos
      holding [v, ov, iv] (setItem ov iv v)
      release [v, ov, iv] []))
    (hs : swapsWithSole [.Subscript o i tpos] e pos.line X.env = pure false) (hw : swappedStores [.Subscript o i tpos] e X.env = pure none)
    (h1 : (assignEach [.Subscript o i tpos] X.env).map (·.2) = [assign (.Subscript o i tpos) X.env]) : PS X (.Assign [.Subscript o i tpos] e pos) (TSx G Wx cf (.setI co ci c)) := by
  refine ps_weak (ps_asg he (pg_sub ho hi (set_allW hu) ha) hs hw h1) fun D s H h => ?_
  obtain ⟨T, σ, M, rfl, rm, rs, h⟩ := h
  simp only [evS] at h
  refine ⟨T, σ, M, rfl, rm, rs, SatS.thn rs h fun w M1 v T1 e1 rm1 i1 h1 => ?_⟩
  refine ⟨T1, σ, M1, rfl, rm1, rs.ext e1, SatS.thn (rs.ext e1) h1 fun w2 M2 v2 T2 e2 rm2 i2 h2 => ?_⟩
  refine ⟨T2, σ, M2, rfl, rm2, (rs.ext e1).ext e2, SatS.thn ((rs.ext e1).ext e2) h2 fun w3 M3 v3 T3 e3 rm3 i3 h3 => ?_⟩
  cases q : setIV w2 w3 w M3 with
  | none => rw [q] at h3; exact h3.elim
  | some M4 =>
    rw [q] at h3
    refine ⟨T3, w2, w3, w, M3, M4, rfl, hK ▸ rm3, hK ▸ i2.ext e3, hK ▸ i3, hK ▸ (i1.ext e2).ext e3, q, fun T4 e4 rm4 => ?_⟩
    exact h3 T4 s e4 (hK ▸ rm4) ((((rs.ext e1).ext e2).ext e3).ext e4)
theorem s_augI {j : Nat} {op : Pos} (hK : G.K = X.K) (hu : X.A.units + 200 < cLine) (ho : PE X o (TEx G Wx cf co)) (hi : PE X i (TEx G Wx cf ci)) (he : PE X e (TEx G Wx cf c))
    (ha : ∀ ov iv new, augStore i ov iv new = (do holding [new, ov, iv] (setItem ov iv new); release [new, ov, iv] []; pure .next)) : PS X (.AugAssign (.Subscript o i tpos) .Add e pos) (TSx G Wx cf (.augI co ci c)) := by
  refine ps_weak (ps_augS ho hi get_allW he ip_add (set_allW hu) ha) fun D s H h => ?_
  obtain ⟨T, σ, M, rfl, rm, rs, h⟩ := h
  simp only [evS] at h
  refine ⟨T, σ, M, rfl, rm, rs, SatS.thn rs h fun w M1 v T1 e1 rm1 i1 h1 => ?_⟩
  refine ⟨T1, σ, M1, rfl, rm1, rs.ext e1, SatS.thn (rs.ext e1) h1 fun w2 M2 v2 T2 e2 rm2 i2 h2 => ?_⟩
  have rs2 := (rs.ext e1).ext e2
  refine ⟨T2, w, w2, M2, rfl, hK ▸ rm2, hK ▸ i1.ext e2, hK ▸ i2, ?_⟩
  rw [← hK]
  refine Sat.calm (SatS.thn (G := G) (Wx := Wx) (s := s) rs2 h2 fun w3 M3 v3 T3 e3 rm3 i3 h3 => ?_) calm_aug
  refine ⟨T3, σ, M3, rfl, rm3, rs2.ext e3, SatS.thn (rs2.ext e3) h3 fun w4 M4 v4 T4 e4 rm4 i4 h4 => ?_⟩
  split at h4
  · rename_i a b
    cases i3; cases i4
    refine ⟨a, b, rfl, rfl, ?_⟩
    cases q : setIV w w2 (.int (a + b)) M4 with
    | none => rw [q] at h4; exact h4.elim
    | some M5 =>
      rw [q] at h4
      exact ⟨T4, w, w2, .int (a + b), M4, M5, rfl, hK ▸ rm4, hK ▸ ((i1.ext e2).ext e3).ext e4, hK ▸ (i2.ext e3).ext e4, .int _, q, fun T5 e5 rm5 => h4 T5 s e5 (hK ▸ rm5) (((rs2.ext e3).ext e4).ext e5)⟩
  · exact h4.elim

theorem s_augN {j : Nat} {x : Str} {pos' : Pos} (hN : X.N.Nodup) (hi : X.N[j]? = some x) (hx : Loc X.env.scope x) (he : PE X e (TEx G Wx cf c)) (hf : X.fn x = true ∨ X.env.scope.names.lookup x = some .local) : PS X (.AugAssign (.Name x pos') .Add e pos) (TSx G Wx cf (.augN j c)) := by
  refine ps_weak (ps_aug hN hi hx he ip_add hf) fun D s H h => ?_
  obtain ⟨T, σ, M, rfl, rm, rs, h⟩ := h
  simp only [evS] at h
  split at h
  · rename_i a q
    obtain ⟨o, q1, q2⟩ := Option.bind_eq_some_iff.mp q
    have q3 : σ[j]? = some (some (.int a)) := by rw [q1, show o = some (.int a) from q2]
    obtain ⟨v, h1, h2⟩ := rs.val j _ q3
    have h2 : IsV G.K T v (.int a) := by
      rcases h2 with h2 | ⟨c, ws, z, _⟩
      · exact h2
      · cases z
    cases h2
    refine ⟨_, h1, T, σ, M, rfl, rm, rs, SatS.thn rs h fun w M1 v T1 e1 rm1 i1 h1 => ?_⟩
    cases w with
    | int b =>
      cases i1
      exact ⟨a, b, rfl, rfl, h1 T1 _ (Ext.refl _) rm1 ((rs.ext e1).set j (.int _))⟩
    | _ => exact h1.elim
  · exact h.elim

/-! ### loops -/
theorem s_for {tg : Expr} {iter : Expr} {body : List Stmt} {t : Tg} {src : Sr} {b : Ss} (hp : PassesOwn (model X.prog X.w) X.A X.env X.xe) (hc : X.calm = true) (hi : PI X tg iter (TIx G Wx cf src)) (hg : PG X tg (TGx G t)) (hb : PSs X body (TSsx G Wx cf b)) (hs : ∀ x, foldedSetIterable iter X.env x = pure x) :
    PS X (.For tg iter body [] pos) (TSx G Wx cf (.for_ t src b)) := by
  refine ps_weak (ps_for hp hc hi hg hb hs) fun D s H h => ?_
  obtain ⟨T, σ, M, rfl, rm, rs, h⟩ := h
  simp only [evS] at h
  refine ⟨T, σ, M, rfl, rm, rs, SatS.thn rs h fun p M1 J T1 e1 rm1 it h1 => ?_⟩
  obtain ⟨l, g⟩ := p
  refine ⟨fun i m s H => m = l.length - i ∧ i ≤ l.length ∧ ∃ T σ M, T.H = H ∧ Ext T1 T ∧ RelM G.K T M ∧ RelS G T s σ ∧ SatS G Wx T (forL (fun x σ M => bindT t x σ M) (fun σ M => evSs G.kl cf b σ M) g (l.drop i) σ M) D,
    ⟨l.length, by simp, Nat.zero_le _, T1, σ, M1, rfl, Ext.refl _, rm1, rs.ext e1, by simpa using h1⟩, ?_⟩
  rintro i m s H ⟨rfl, hi, T2, σ2, M2, rfl, e2, rm2, rs2, h2⟩
  by_cases hg : gdOk M2 g
  · by_cases hlt : i < l.length
    · right
      have hw : l[i]? = some l[i] := List.getElem?_eq_getElem hlt
      rw [List.drop_eq_getElem_cons hlt] at h2
      simp only [forL, if_pos hg] at h2
      refine ⟨it.go i T2 M2 _ e2 rm2 hg hw, fun s H => (l.length - (i + 1) = l.length - (i + 1)) ∧ (i + 1) ≤ l.length ∧ ∃ T σ M, T.H = H ∧ Ext T1 T ∧ RelM G.K T M ∧ RelS G T s σ ∧ SatS G Wx T (forL (fun x σ M => bindT t x σ M) (fun σ M => evSs G.kl cf b σ M) g (l.drop (i + 1)) σ M) D,
        fun s' H' w => ⟨l.length - (i + 1), by omega, w⟩, fun x H' y => ?_⟩
      obtain ⟨T3, hT3, e3, rm3, ix⟩ := it.yld i T2 M2 _ x H' e2 rm2 hg hw y
      cases hb : bindT t l[i] σ2 M2 with
      | none => rw [hb] at h2; exact h2.elim
      | some σ4 =>
        rw [hb] at h2
        dsimp only at h2
        refine ⟨T3, σ2, M2, l[i], σ4, hT3, rm3, rs2.ext e3, ix, hb, fun s4 rs4 _ => ⟨T3, σ4, M2, rfl, rm3, rs4, ?_⟩⟩
        have h3 := h2.ext e3
        cases q : evSs G.kl cf b σ4 M2 with
        | nx σ5 M5 =>
          rw [q] at h3
          exact fun T' s' e' rm' rs' => ⟨rfl, hlt, T', σ5, M5, rfl, (e2.trans e3).trans e', rm', rs', h3.ext e'⟩
        | cnt σ5 M5 =>
          rw [q] at h3
          exact fun T' s' e' rm' rs' => ⟨rfl, hlt, T', σ5, M5, rfl, (e2.trans e3).trans e', rm', rs', h3.ext e'⟩
        | brk σ5 M5 => rw [q] at h3; exact h3
        | ret w M5 => rw [q] at h3; exact h3
        | exc a b c d => rw [q] at h3; exact h3
        | bad => rw [q] at h3; exact h3.elim
    · left
      have ei : i = l.length := by omega
      subst ei
      refine ⟨it.stop T2 M2 e2 rm2 hg, ?_⟩
      rw [List.drop_length] at h2
      simp only [forL, if_pos hg] at h2
      exact h2 T2 s (Ext.refl _) rm2 rs2
  · have : forL (fun x σ M => bindT t x σ M) (fun σ M => evSs G.kl cf b σ M) g (l.drop i) σ2 M2 = .bad := by
      cases l.drop i <;> simp only [forL, if_neg hg]
    rw [this] at h2
    exact h2.elim
theorem s_while {body : List Stmt} {b : Ss} (hp : PassesOwn (model X.prog X.w) X.A X.env X.xe) (hc : PT X e (TTx G Wx cf c)) (hb : PSs X body (TSsx G Wx cf b)) : PS X (.While e body [] pos) (TSx G Wx cf (.while_ c b)) := by
  refine ps_weak (ps_while hp hc hb) fun D s H h => ?_
  obtain ⟨T, σ, M, rfl, rm, rs, h⟩ := h
  simp only [evS] at h
  refine ⟨fun m s H => ∃ T σ M, T.H = H ∧ RelM G.K T M ∧ RelS G T s σ ∧ SatS G Wx T (whileL (fun σ M => (evE G.kl cf c σ M).bind fun x M1 => R.of (tru M1 x) M1) (fun σ M => evSs G.kl cf b σ M) m σ M) D, ⟨wFuel, T, σ, M, rfl, rm, rs, h⟩, ?_⟩
  rintro m s H ⟨T1, σ1, M1, rfl, rm1, rs1, h1⟩
  cases m with
  | zero => exact h1.elim
  | succ m =>
    simp only [whileL] at h1
    refine ⟨T1, σ1, M1, rfl, rm1, rs1, ?_⟩
    unfold evB
    refine SatS.thn rs1 h1 fun b' M2 v T2 e2 rm2 i2 h2 => ?_
    have i2' : v = b' := i2
    subst i2'
    cases v with
    | false =>
      simp only [Bool.false_eq_true, if_false]
      exact h2 T2 s (Ext.refl _) rm2 (rs1.ext e2)
    | true =>
      simp only [if_true]
      refine ⟨fun s H => ∃ T σ M, T.H = H ∧ RelM G.K T M ∧ RelS G T s σ ∧ SatS G Wx T (whileL (fun σ M => (evE G.kl cf c σ M).bind fun x M1 => R.of (tru M1 x) M1) (fun σ M => evSs G.kl cf b σ M) m σ M) D, fun s' H' w => ⟨m, Nat.lt_succ_self m, w⟩, T2, σ1, M2, rfl, rm2, rs1.ext e2, ?_⟩
      dsimp only at h2
      cases q : evSs G.kl cf b σ1 M2 with
      | nx σ5 M5 =>
        rw [q] at h2
        exact fun T' s' e' rm' rs' => ⟨T', σ5, M5, rfl, rm', rs', h2.ext e'⟩
      | cnt σ5 M5 =>
        rw [q] at h2
        exact fun T' s' e' rm' rs' => ⟨T', σ5, M5, rfl, rm', rs', h2.ext e'⟩
      | brk σ5 M5 => rw [q] at h2; exact h2
      | ret w M5 => rw [q] at h2; exact h2
      | exc a b c d => rw [q] at h2; exact h2
      | bad => rw [q] at h2; exact h2.elim
end
end Sg
end

section
set_option Elab.async false
set_option linter.all false
set_option maxRecDepth 100000
set_option maxHeartbeats 1000000
/-! Sg, part 11: calls of defs. -/
namespace Sg
open PySem PySem.Spec PyProof.Rows L2

/-! ### what leaves a call -/
section
variable {K : PySem.W.Frag} {T T' : Ws}
mutual
theorem below_of : ∀ {v : V} {w : Vl}, IsV K T v w → below T.as.length w = true
  | _, _, .non => rfl
  | _, _, .bl _ => rfl
  | _, _, .int _ => rfl
  | _, _, .str _ => rfl
  | _, _, .tup _ r => by simpa [below] using belowL_of r
  | _, _, .lst _ r => by simpa [below] using belowL_of r
  | _, _, .ref h => by simpa [below] using (List.getElem?_eq_some_iff.mp h).1
  | _, _, .scr _ r => by simpa [below] using belowL_of r
  | _, _, .dic _ => rfl
theorem belowL_of : ∀ {v : List V} {w : List Vl}, IsVs K T v w → belowL T.as.length w = true
  | _, _, .nil => rfl
  | _, _, .cons h r => by simp [belowL, below_of h, belowL_of r]
end
theorem belowL_cons {n : Nat} {w : Vl} {l : List Vl} (h : belowL n (w :: l) = true) : below n w = true ∧ belowL n l = true := by simpa [belowL] using h
/-- behind the call: the heap of T', what may change as in T -/
def outW (T T' : Ws) : Ws := ⟨T'.H, T.U, T.as⟩
variable (e : Ext T T')
include e
theorem fzT_out {a : Addr} {xs : List V} (h : FzT K T' a xs) : FzT K (outW T T') a xs := h.imp (fun z => ⟨z.1, fun u => z.2 (e.sub a u)⟩) id
theorem fzS_out {a : Addr} {xs : List V} (h : FzS K T' a xs) : FzS K (outW T T') a xs := h.imp (fun z => ⟨z.1, fun u => z.2 (e.sub a u)⟩) id
theorem as_out {n : Nat} {a : Addr} (h : T'.as[n]? = some a) (hn : n < T.as.length) : T.as[n]? = some a := by
  obtain ⟨m, q, _⟩ := e.fre
  rw [q, List.getElem?_append_left hn] at h
  exact h
theorem new_out {n : Nat} {a : Addr} (h : T'.as[n]? = some a) (hn : ¬ n < T.as.length) : T.H a = none := by
  obtain ⟨m, q, f⟩ := e.fre
  rw [q, List.getElem?_append_right (by omega)] at h
  exact f a (List.mem_of_getElem? h)
mutual
theorem isV_out : ∀ {v : V} {w : Vl}, IsV K T' v w → below T.as.length w = true → IsV K (outW T T') v w
  | _, _, .non, _ => .non
  | _, _, .bl b, _ => .bl b
  | _, _, .int i, _ => .int i
  | _, _, .str s, _ => .str s
  | _, _, .tup h r, b => .tup (fzT_out e h) (isVs_out r (by simpa [below] using b))
  | _, _, .lst h r, b => .lst ⟨h.1, fun u => h.2 (e.sub _ u)⟩ (isVs_out r (by simpa [below] using b))
  | _, _, .ref h, b => .ref (as_out e h (by simpa [below] using b))
  | _, _, .scr h r, b => .scr (fzS_out e h) (isVs_out r (by simpa [below] using b))
  | _, _, .dic h, _ => .dic ⟨h.1, fun u => h.2 (e.sub _ u)⟩
theorem isVs_out : ∀ {v : List V} {w : List Vl}, IsVs K T' v w → belowL T.as.length w = true → IsVs K (outW T T') v w
  | _, _, .nil, _ => .nil
  | _, _, .cons h r, b => by
    exact .cons (isV_out h (belowL_cons b).1) (isVs_out r (belowL_cons b).2)
end
theorem frz_out {M' : Mm} (hu : UH T) (rm : RelM K T' M') : ∀ (k : Nat) {v : V} {w : Vl}, IsV K T' v w → below T.as.length (frz T.as.length M' k w) = true → IsV K (outW T T') v (frz T.as.length M' k w)
  | 0, v, w, h, b => by
    unfold frz at b ⊢
    exact isV_out e h b
  | k + 1, v, w, h, b => by
    have each : ∀ {xs : List V} {l : List Vl}, IsVs K T' xs l → belowL T.as.length (l.map (frz T.as.length M' k)) = true → IsVs K (outW T T') xs (l.map (frz T.as.length M' k)) := by
      intro xs
      induction xs with
      | nil => intro l h b; cases h; exact .nil
      | cons x xs ih =>
        intro l h b
        cases h with
        | cons h1 h2 =>
          rw [List.map_cons] at b ⊢
          exact .cons (frz_out hu rm k h1 (belowL_cons b).1) (ih h2 (belowL_cons b).2)
    unfold frz at b ⊢
    by_cases hb : below T.as.length w = true
    · rw [if_pos hb] at b ⊢
      exact isV_out e h b
    · rw [if_neg hb] at b ⊢
      cases w with
      | ref i =>
        dsimp only at b ⊢
        have hi : ¬ i < T.as.length := by simpa [below] using hb
        cases q : M'[i]? with
        | none => rw [q] at b; exact isV_out e h b
        | some c =>
          cases c with
          | lst l =>
            rw [q] at b
            obtain ⟨a, ha, _, xs, h1, h2⟩ := rm.get q
            cases h with
            | ref hr =>
              rw [ha] at hr
              cases hr
              exact .lst ⟨h1, fun u => hu a u (new_out e ha hi)⟩ (each h2 (by simpa [below] using b))
          | dct l => rw [q] at b; exact isV_out e h b
          | ins c l => rw [q] at b; exact isV_out e h b
      | tup l =>
        cases h with
        | tup hz hs => exact .tup (fzT_out e hz) (each hs (by simpa [below] using b))
      | lst l =>
        cases h with
        | lst hz hs => exact .lst ⟨hz.1, fun u => hz.2 (e.sub _ u)⟩ (each hs (by simpa [below] using b))
      | _ => exact isV_out e h b
theorem cell_out {a : Addr} {c : Cl} (h : CellOk K T' a c) (b : c.below T.as.length = true) : CellOk K (outW T T') a c := by
  cases c with
  | lst l =>
    obtain ⟨xs, h1, h2⟩ := h
    exact ⟨xs, h1, isVs_out e h2 (by simpa [Cl.below] using b)⟩
  | dct l =>
    obtain ⟨kv, h1, h2⟩ := h
    refine ⟨kv, h1, ?_⟩
    have b' : ∀ p ∈ l, below T.as.length p.2 = true := fun p hp => by
      have := List.all_eq_true.mp (show (l.all fun p => below T.as.length p.1 && below T.as.length p.2) = true from b) p hp
      simp only [Bool.and_eq_true] at this
      exact this.2
    clear h1 b
    induction h2 with
    | nil => exact .nil
    | cons h r ih => exact .cons ⟨h.1, isV_out e h.2 (b' _ List.mem_cons_self)⟩ (ih fun p hp => b' p (List.mem_cons_of_mem _ hp))
  | ins c l => exact h
theorem out_ext : Ext T (outW T T') := ⟨⟨e.keep, fun _ h => .inl h, ⟨[], by simp [outW]⟩⟩, e.thr, fun _ h => h, e.hold, ⟨[], by simp [outW], by simp⟩⟩
theorem below_cell {a : Addr} {c : Cl} (h : CellOk K T a c) : c.below T.as.length = true := by
  cases c with
  | lst l =>
    obtain ⟨xs, h1, h2⟩ := h
    simpa [Cl.below] using belowL_of h2
  | dct l =>
    obtain ⟨kv, h1, h2⟩ := h
    show (l.all fun p => below T.as.length p.1 && below T.as.length p.2) = true
    clear h1
    induction h2 with
    | nil => rfl
    | @cons p q _ _ h r ih =>
      rw [List.all_cons, ih, below_of h.2]
      have : below T.as.length q.1 = true := by
        have := h.1
        cases hq : q.1 <;> rw [hq] at this <;> simp [keyOf] at this <;> rfl
      rw [this]
      rfl
  | ins c l => exact h.elim
theorem out_mem {M M' : Mm} (rm : RelM K T M) (rm' : RelM K T' M') (hk : keepsOk M.length M M') : RelM K (outW T T') (M'.take M.length) := by
  refine ⟨rm.nd, rm.inU, fun a h => e.thr a (rm.uH a h), ?_⟩
  have hc := rm'.ce
  obtain ⟨m, q, _⟩ := e.fre
  rw [q] at hc
  have hl := pairedLen rm.ce
  have go : ∀ (as : List Addr) (A : Mm) (B : Mm), Paired (CellOk K T) as A → Paired (CellOk K T') (as ++ m) B → keepsOk M.length A B → Paired (CellOk K (outW T T')) as (B.take A.length) := by
    intro as
    induction as with
    | nil => intro A B h1 _ _; cases h1; exact .nil
    | cons a as ih =>
      intro A B h1 h2 hk
      cases h1 with
      | cons h1 r1 =>
        cases h2 with
        | cons h2 r2 =>
          rw [List.length_cons, List.take_succ_cons]
          refine .cons (cell_out e h2 ?_) (ih _ _ r1 r2 hk.2)
          rcases hk.1 with z | z
          · rw [← z]; exact below_cell e h1
          · rw [hl]; exact z
  exact go T.as M M' rm.ce hc hk
end
/-- what a call lets out, by its exceptions -/
def XV (G : Pg) (E : XK) : Ws → String → List Vl → Mm → Prop := fun T c ws M => ∀ cls d T', Ext T T' → RelM G.K T' M → IsX G T' cls d c ws → E cls d T'.H
theorem XV.mono {G : Pg} {E : XK} : MonoX (XV G E) := fun T T' c ws M e h cls d T2 e2 rm ix => h cls d T2 (e.trans e2) rm ix
theorem leave_ok {G : Pg} {E : XK} {T : Ws} {M : Mm} {r : RS} {fz : Bool} {Q : VK} (rm : RelM G.K T M) (h : Sat G.K (IsV G.K) (XV G E) T (leave fz M r) Q) : SatS G (fun cls d _ H => E cls d H) T r { nx := fun _ H' => Q .non H', rt := Q } := by
  have hl := pairedLen rm.ce
  have val : ∀ {w : Vl} {M' : Mm}, Sat G.K (IsV G.K) (XV G E) T (leaveV M.length M M' w) Q → ∀ v T', Ext T T' → RelM G.K T' M' → IsV G.K T' v w → Q v T'.H := fun {w M'} h v T' e rm' iv => by
    unfold leaveV at h
    split at h
    · rename_i hh
      have iv' := frz_out e rm.uH rm' frzFuel iv (by rw [hl]; exact hh.2)
      rw [hl] at iv'
      exact h v (outW T T') (out_ext e) (out_mem e rm rm' hh.1) iv'
    · exact h.elim
  unfold leave at h
  cases r with
  | nx σ M' =>
    dsimp only at h
    intro T' s' e rm' rs'
    cases fz with
    | true => simp only [if_true] at h; exact val h .non T' e rm' .non
    | false => simp only [Bool.false_eq_true, if_false] at h; exact h .non T' e rm' .non
  | brk σ M' => exact h.elim
  | cnt σ M' => exact h.elim
  | ret w M' =>
    dsimp only at h
    intro v T' e rm' iv
    cases fz with
    | true => simp only [if_true] at h; exact val h v T' e rm' iv
    | false => simp only [Bool.false_eq_true, if_false] at h; exact h v T' e rm' iv
  | exc c ws σ M' =>
    dsimp only at h
    intro cls d T' s' e rm' rs' ix
    cases fz with
    | true =>
      simp only [if_true] at h
      split at h
      · rename_i hh
        refine h cls d (outW T T') (out_ext e) (out_mem e rm rm' hh.1) ?_
        obtain ⟨C, h1, h2, h3⟩ := ix
        refine ⟨C, h1, h2, ?_⟩
        split at h3
        · exact h3.elim
        · exact ⟨by rw [h3.1]; rfl, h3.2⟩
        · obtain ⟨dd, v, w, q1, q2, q3, q4, q5⟩ := h3
          subst q2
          have hb := hh.2
          rw [List.map_cons, List.map_nil] at hb
          have hb2 : below M.length (frz M.length M' frzFuel w) = true := by simpa [belowL] using hb
          have q6 := frz_out e rm.uH rm' frzFuel q5 (by rw [hl]; exact hb2)
          rw [hl] at q6
          exact ⟨dd, v, _, q1, rfl, q3, fun u => q4 (e.sub _ u), q6⟩
      · exact h.elim
    | false => simp only [Bool.false_eq_true, if_false] at h; exact h cls d T' e rm' ix
  | bad => exact h.elim

/-! ### defs -/
structure FnG (P : Program) (w : World) (K : PySem.W.Frag) (mg : Str → Option Value) (base : Heap) (k : Nat) (f : Addr) (fd : FuncData) (ps : List Str) (sp : Sp) : Prop where
  len : ∀ vs H Q E, sp vs H Q E → vs.length = ps.length
  run : ∀ (A : Around) (outer : List Env) (s : Shared) (H : Hp) (args : Args) (us : List Value) (vs : List V) (Q : VK) (E : XK), Room k A → A.guards = some [] → Env0 P w K mg base A outer s H → BindsTo s fd args (ps.zip us) → Vals vs us → sp vs H Q E →
    codeAny (model P w) A (.call (.ref f) args) (CR (L2.CX P w) outer P w H s Q E) s
section
variable {X : Cx} {Wx : WX} {k : Nat} {f : Addr} {fd : FuncData} {ps ks : List Str} {sp : Sp} {x : Str} {p pos : Pos} {e : Expr} {es : List Expr} {t tk : TA}
theorem run_fnG {pins : List (Addr × Obj)} {σ : L2.St} {H : Hp} {s : Shared} {Q : VK} {us : List Value} {vs : List V} (F : FnG X.prog X.w X.K X.mg X.base k f fd ps sp) (hr : Room k X.A) (hgd : X.A.guards = some []) (hb : Binds X.K fd ps []) (tk : Takes X Wx)
    (I : Inv X pins σ H s) (r : Vals vs us) (h : sp vs H Q (WE Wx σ)) : wpAny (model X.prog X.w) X.A (call (.ref f) us) (EP X pins σ Q) X.xe s := by
  have hl : us.length = ps.length := by rw [← r.length]; exact F.len _ _ _ _ h
  have b := hb s us I.kIn (by rw [List.append_nil]; exact hl)
  rw [List.append_nil] at b
  refine wpAny_call (codeAny_mono (F.run X.A X.stack s H ⟨us, []⟩ us vs Q (WE Wx σ) hr hgd I.env0 b r h) fun r s' hq => ?_)
  cases r with
  | error e => exact passAt tk σ pins H s e s' I hq
  | ok fl =>
    cases fl with
    | ret u => exact I.after hq
    | next => exact False.elim hq
    | brk => exact False.elim hq
    | cont => exact False.elim hq
def tCG (sp : Sp) (Wx : WX) (t : TA) : TE := fun σ H Q => t σ H fun vs H1 => sp vs H1 Q (WE Wx σ)
theorem pe_callG (F : FnG X.prog X.w X.K X.mg X.base k f fd ps sp) (hr : Room k X.A) (hgd : X.A.guards = some []) (hg : Gl X x) (hm : X.mg x = some (.ref f)) (hk : PySem.W.keepIn X.K (.ref f) = true) (hb : Binds X.K fd ps []) (tk : Takes X Wx)
    (ha : PA X (e :: es) t) (hdb : (x == ("__debug__" : Str)) = false) (he : starEach (e :: es) X.env = (false, eval e X.env) :: starEach es X.env) (hpl : (backTo pos (starEach es X.env)).any (·.1) = false) :
    PE X (.Call (.Name x p) (e :: es) [] pos) (tCG sp Wx t) := by
  refine ⟨fun pins s σ H Q I h => ?_⟩
  refine wpAny_Call_Name_kw (ld_glob I hg hm ?_ hdb)
  refine PySem.W.callWith_K (h₀ := X.base) I.ok.mod.kin hk (thn (ha.run pos pins s σ H _ I h) fun us s1 ⟨vs, H1, I1, r, q⟩ => ⟨I1.kIn, ?_⟩) he hpl
  exact run_fnG F hr hgd hb tk I1 r q
theorem pe_callG0 (F : FnG X.prog X.w X.K X.mg X.base k f fd ps sp) (hr : Room k X.A) (hgd : X.A.guards = some []) (hg : Gl X x) (hm : X.mg x = some (.ref f)) (hk : PySem.W.keepIn X.K (.ref f) = true) (hb : Binds X.K fd ps []) (tk : Takes X Wx)
    (hdb : (x == ("__debug__" : Str)) = false) : PE X (.Call (.Name x p) [] [] pos) (tCG sp Wx tNil) := by
  refine ⟨fun pins s σ H Q I h => ?_⟩
  refine wpAny_Call_Name_kw (ld_glob I hg hm ?_ hdb)
  exact PySem.W.callWith_K0 I.kIn hk (run_fnG (us := []) F hr hgd hb tk I .nil h)
end
theorem fn_ofG {P : Program} {w : World} {K : PySem.W.Frag} {mg : Str → Option Value} {base : Heap} {k : Nat} {f : Addr} {name qual : Str} {params : Arguments} {body : List Stmt} {scope : Scope} {dV kV doc pm cdv ct oc : Value} {an od : Option Addr}
    {osl : Array (Option Value)} {N ps : List Str} {sp : Sp} (lk : K.lookup f = some ⟨oc, od, .func (PySem.W.fnOf name qual params body scope dV kV doc pm an cdv ct), osl⟩) (hcd : PySem.W.codeIn K cdv qual = true) (S : FnScope N ps scope)
    (len : ∀ vs H Q E, sp vs H Q E → vs.length = ps.length)
    (hbody : ∀ (A : Around) (outer : List Env) (s : Shared) (H : Hp) (vs : List V) (Q : VK) (E : XK), Room k (A.deeper (envOfC qual scope s.heap.objs.size f cdv)) → A.guards = some [] → sp vs H Q E →
      ∃ t, PSs (cxOf (L2.CX P w) P w K mg base N qual scope f cdv A outer s H E) body t ∧ t { nx := fun _ H' => Q .non H', rt := Q } (start N vs) H) :
    FnG P w K mg base (k + 1) f (PySem.W.fnOf name qual params body scope dV kV doc pm an cdv ct) ps sp := by
  refine ⟨len, fun A outer s H args us vs Q E hr hgd e0 hb r hsp => ?_⟩
  have hl := len _ _ _ _ hsp
  have KX : K.In s.heap := e0.mod.kin.keeps fun b o e => (e0.bs b o e).1
  have lim : s.heap.NoLimit := e0.mod.nolimit.keeps fun b o e => (e0.bs b o e).1
  have hkind : ∀ y ∈ ps.zip us, scope.names.lookup y.1 = some .local ∨ (scope.names.lookup y.1 = some .cell ∧ ((cellsFrom (s.heap.objs.size + 1) scope.names []).lookup y.1).isSome = true) := fun ⟨n, v⟩ hy => by
    rcases S.par n (List.of_mem_zip hy).1 with q | q
    · exact .inl q
    · exact .inr ⟨q, PySem.W.cellsFrom_some _ _ _ (.inl q)⟩
  refine codeAny_call_function hr.depth (KX _ _ lk) rfl S.co S.gen rfl (PySem.W.codeRec_of KX hcd) (hb _ _ _ _ ?_)
  refine wpAny_newFunctionEnv_cells S.kind hkind fun env he s1 x => ?_
  subst he
  refine ⟨lim.keeps x.toInCall.keep, codeAny_func ?_⟩
  obtain ⟨t, ht, hq⟩ := hbody A outer s H vs Q E (hr.deeper _) hgd hsp
  have I : Inv (cxOf (L2.CX P w) P w K mg base N qual scope f cdv A outer s H E) [] (start N vs) H s1 := inv_start S hr.hd e0 hl r x
  refine wpAny_mono (ht.run [] s1 (start N vs) H _ I hq) (fun fl s' hs => ?_) fun e s' hs => hs
  have fin : ∀ {σ' : L2.St} {H' : Hp} {v : V} {u : Value}, Inv (cxOf (L2.CX P w) P w K mg base N qual scope f cdv A outer s H E) [] σ' H' s' → RelV v u → Q v H' → CE outer P w H s Q u s' :=
    fun {σ' H' v u} J rv q => ⟨v, H', J.os, J.bare, J.base, J.hok, rv, q⟩
  cases fl with
  | ret u =>
    obtain ⟨v, σ', H', J, rv, q⟩ := hs
    exact fin J rv q
  | next =>
    obtain ⟨σ', H', J, q⟩ := hs
    exact fin (v := V.non) (u := Value.none) J rfl q
  | brk =>
    obtain ⟨_, _, _, q⟩ := hs
    exact False.elim q
  | cont =>
    obtain ⟨_, _, _, q⟩ := hs
    exact False.elim q

/-! ### a def keeps what the evaluator says -/
/-- the promise of f at n turns of depth -/
def SPf (G : Pg) (Tb : Tbl) (f : String) (np : Nat) (n : Nat) : Sp := fun vs H Q E => ∃ T ws M, T.H = H ∧ RelM G.K T M ∧ IsVs G.K T vs ws ∧ ws.length = np ∧ Sat G.K (IsV G.K) (XV G E) T (evCall G.kl Tb n f ws M) Q
theorem start_rel {G : Pg} {T : Ws} {N : List Str} {vs : List V} {ws : List Vl} {F : Fn} (h : IsVs G.K T vs ws) (hl : ws.length = F.np) (hN : N.length = F.nl) (hp : F.np ≤ F.nl) : RelS G T (start N vs) (startS F ws) := by
  unfold L2.start startS
  refine ⟨?_, fun i w hw => ?_⟩
  · simp only [List.length_append, List.length_map, List.length_replicate, h.length]
    omega
  · by_cases hi : i < ws.length
    · rw [List.getElem?_append_left (by simpa using hi), List.getElem?_map] at hw
      cases q : ws[i]? with
      | none => rw [q] at hw; cases hw
      | some w' =>
        rw [q] at hw
        cases hw
        obtain ⟨v, hv, iv⟩ := h.get q
        refine ⟨v, ?_, .inl iv⟩
        rw [List.getElem?_append_left (by rw [List.length_map, h.length]; exact hi), List.getElem?_map, hv]
        rfl
    · rw [List.getElem?_append_right (by simpa using hi), List.getElem?_replicate] at hw
      split at hw <;> cases hw
theorem fn_body {P : Program} {w : World} {G : Pg} {Tb : Tbl} {mg : Str → Option Value} {base : Heap} {k : Nat} {fn : String} {f : Addr} {name qual : Str} {params : Arguments} {body : List Stmt} {scope : Scope} {dV kV doc pm cdv ct oc : Value} {an od : Option Addr}
    {osl : Array (Option Value)} {N ps : List Str} {F : Fn} (lk : G.K.lookup f = some ⟨oc, od, .func (PySem.W.fnOf name qual params body scope dV kV doc pm an cdv ct), osl⟩) (hcd : PySem.W.codeIn G.K cdv qual = true) (S : FnScope N ps scope)
    (hT : Tb fn = some F) (hps : ps.length = F.np) (hN : N.length = F.nl)
    (hbody : ∀ (A : Around) (outer : List Env) (s : Shared) (H : Hp) (E : XK), Room (k + 1) (A.deeper (envOfC qual scope s.heap.objs.size f cdv)) → A.guards = some [] →
      PSs (cxOf (L2.CX P w) P w G.K mg base N qual scope f cdv A outer s H E) body (TSsx G (fun cls d _ H => E cls d H) (evCall G.kl Tb k) F.body)) :
    FnG P w G.K mg base (k + 1 + 1) f (PySem.W.fnOf name qual params body scope dV kV doc pm an cdv ct) ps (SPf G Tb fn F.np (k + 1)) := by
  have hle : F.np ≤ F.nl := by
    have := congrArg List.length S.pre
    rw [List.length_take] at this
    omega
  refine fn_ofG lk hcd S (fun vs H Q E h => ?_) fun A outer s H vs Q E hr hgd h => ⟨_, hbody A outer s H E hr hgd, ?_⟩
  · obtain ⟨T, ws, M, rfl, rm, iv, hl, h⟩ := h
    rw [iv.length, hl, hps]
  · obtain ⟨T, ws, M, rfl, rm, iv, hl, h⟩ := h
    unfold evCall at h
    rw [hT] at h
    dsimp only at h
    rw [if_pos hl] at h
    exact ⟨T, startS F ws, M, rfl, rm, start_rel iv hl hN hle, leave_ok rm h⟩
/-- what a function is, where it lies -/
structure Fa where
  f : Addr
  fd : FuncData
  ps : List Str
section
variable {G : Pg} {Wx : WX} {X : Cx} {Tb : Tbl} {n : Nat} {fn : String} {np : Nat} {f : Addr} {fd : FuncData} {ps : List Str} {x : Str} {p pos : Pos} {e : Expr} {es : List Expr} {c : E} {cs : Es}
theorem evCall_len {kl : Kls} {F : Fn} (hT : Tb fn = some F) {ws : List Vl} {M : Mm} (h : evCall kl Tb n fn ws M ≠ .bad) : ws.length = F.np := by
  cases n with
  | zero => exact absurd rfl h
  | succ n =>
    unfold evCall at h
    rw [hT] at h
    dsimp only at h
    by_cases q : ws.length = F.np
    · exact q
    · rw [if_neg q] at h; exact absurd rfl h
theorem Sat.ne_bad {α β : Type} {K : PySem.W.Frag} {rel : Ws → β → α → Prop} {xw : Ws → String → List Vl → Mm → Prop} {T : Ws} {r : R α} {Q : β → Hp → Prop} (h : Sat K rel xw T r Q) : r ≠ .bad := fun z => by rw [z] at h; exact h
theorem x_call {F : Fn} (hK : G.K = X.K) (hT : Tb fn = some F) (FG : FnG X.prog X.w X.K X.mg X.base (n + 1) f fd ps (SPf G Tb fn F.np n)) (hr : Room (n + 1) X.A) (hgd : X.A.guards = some []) (hg : Gl X x) (hm : X.mg x = some (.ref f)) (hk : PySem.W.keepIn X.K (.ref f) = true) (hb : Binds X.K fd ps []) (tk : Takes X Wx)
    (ha : PA X (e :: es) (TAx G Wx (evCall G.kl Tb n) cs)) (hdb : (x == ("__debug__" : Str)) = false) (he : starEach (e :: es) X.env = (false, eval e X.env) :: starEach es X.env) (hpl : (backTo pos (starEach es X.env)).any (·.1) = false) :
    PE X (.Call (.Name x p) (e :: es) [] pos) (TEx G Wx (evCall G.kl Tb n) (.call fn cs)) := by
  refine pe_weak (pe_callG FG hr hgd hg hm hk hb tk ha hdb he hpl) fun s H Q h => ?_
  obtain ⟨T, σ, M, rfl, rm, rs, h⟩ := h
  simp only [evE] at h
  refine ⟨T, σ, M, rfl, rm, rs, h.bind XW.mono fun ws M1 vs T1 e1 rm1 i1 h1 => ?_⟩
  exact ⟨T1, ws, M1, rfl, rm1, i1, evCall_len hT h1.ne_bad, h1⟩
theorem x_call0 {F : Fn} (hK : G.K = X.K) (hT : Tb fn = some F) (FG : FnG X.prog X.w X.K X.mg X.base (n + 1) f fd ps (SPf G Tb fn F.np n)) (hr : Room (n + 1) X.A) (hgd : X.A.guards = some []) (hg : Gl X x) (hm : X.mg x = some (.ref f)) (hk : PySem.W.keepIn X.K (.ref f) = true) (hb : Binds X.K fd ps []) (tk : Takes X Wx)
    (hdb : (x == ("__debug__" : Str)) = false) : PE X (.Call (.Name x p) [] [] pos) (TEx G Wx (evCall G.kl Tb n) (.call fn .nil)) := by
  refine pe_weak (pe_callG0 FG hr hgd hg hm hk hb tk hdb) fun s H Q h => ?_
  obtain ⟨T, σ, M, rfl, rm, rs, h⟩ := h
  simp only [evE, evEs, R.bind_ok] at h
  exact ⟨T, [], M, rfl, rm, .nil, evCall_len hT h.ne_bad, h⟩

/-! ### calls by keywords alone -/
def KwB (K : PySem.W.Frag) (fd : FuncData) (ps names : List Str) (ks : List Nat) : Prop :=
  ∀ (s : Shared) (us : List Value), K.In s.heap → us.length = names.length → BindsTo s fd ⟨[], names.zip us⟩ (ps.zip (ks.map fun k => us.getD k .none))
theorem vals_pick {vs : List V} {us : List Value} (h : Vals vs us) (ks : List Nat) : Vals (ks.map fun k => vs.getD k .non) (ks.map fun k => us.getD k .none) := by
  induction ks with
  | nil => exact .nil
  | cons k ks ih =>
    refine .cons ?_ ih
    have hl := h.length
    cases q : vs[k]? with
    | none =>
      have q2 : us[k]? = none := by rw [List.getElem?_eq_none_iff] at q ⊢; omega
      simp only [List.getD_eq_getElem?_getD, q, q2]
      exact rfl
    | some v =>
      obtain ⟨u, q2, r⟩ := h.get q
      simp only [List.getD_eq_getElem?_getD, q, q2]
      exact r
theorem isVs_pick {K : PySem.W.Frag} {T : Ws} {vs : List V} {ws : List Vl} (h : IsVs K T vs ws) (ks : List Nat) : IsVs K T (ks.map fun k => vs.getD k .non) (ks.map fun k => ws.getD k .non) := by
  induction ks with
  | nil => exact .nil
  | cons k ks ih =>
    refine .cons ?_ ih
    have hl := h.length
    cases q : ws[k]? with
    | none =>
      have q2 : vs[k]? = none := by rw [List.getElem?_eq_none_iff] at q ⊢; omega
      simp only [List.getD_eq_getElem?_getD, q, q2]
      exact .non
    | some v =>
      obtain ⟨u, q2, r⟩ := h.get q
      simp only [List.getD_eq_getElem?_getD, q, q2]
      exact r
theorem k_nil : PK X [] (TAx G Wx (evCall G.kl Tb n) .nil) := by
  refine ⟨fun pos pins s σ H Q I h => pk_nil.run pos pins s σ H Q I ?_⟩
  obtain ⟨T, σ', M, rfl, rm, rs, h⟩ := h
  simp only [evEs] at h
  exact h.here rm .nil
theorem k_cons {nm : Option Str} {kp : Pos} {kws : List Keyword} (ha : PE X e (TEx G Wx (evCall G.kl Tb n) c)) (hr : PK X kws (TAx G Wx (evCall G.kl Tb n) cs)) : PK X (⟨nm, e, kp⟩ :: kws) (TAx G Wx (evCall G.kl Tb n) (.cons c cs)) := by
  refine ⟨fun pos pins s σ H Q I h => (pk_cons ha hr).run pos pins s σ H Q I ?_⟩
  obtain ⟨T, σ', M, rfl, rm, rs, h⟩ := h
  simp only [evEs] at h
  refine ⟨T, σ', M, rfl, rm, rs, h.bind XW.mono fun w M1 v T1 e1 rm1 i1 h1 => ?_⟩
  refine ⟨T1, σ', M1, rfl, rm1, rs.ext e1, h1.bind XW.mono fun ws M2 vs T2 e2 rm2 i2 h2 => ?_⟩
  exact h2.here rm2 (.cons (i1.ext e2) i2)
theorem x_callk {F : Fn} {kws : List Keyword} {names : List Str} {ks : List Nat} (hT : Tb fn = some F) (FG : FnG X.prog X.w X.K X.mg X.base (n + 1) f fd ps (SPf G Tb fn F.np n)) (hr : Room (n + 1) X.A) (hgd : X.A.guards = some []) (hg : Gl X x) (hm : X.mg x = some (.ref f)) (hk : PySem.W.keepIn X.K (.ref f) = true) (hb : KwB X.K fd ps names ks) (tk : Takes X Wx)
    (ha : PK X kws (TAx G Wx (evCall G.kl Tb n) cs)) (hn : esLen cs = names.length) (hdb : (x == ("__debug__" : Str)) = false) (hall : (backToKw pos (keywordEach kws X.env)).all (·.1.isSome) = true) (hno : (backToKw pos (keywordEach kws X.env)).any (·.1.isNone) = false) (hks : (backToKw pos (keywordEach kws X.env)).filterMap (·.1) = names) :
    PE X (.Call (.Name x p) [] kws pos) (TEx G Wx (evCall G.kl Tb n) (.callk fn .nil ks cs)) := by
  refine ⟨fun pins s σ H Q I h => ?_⟩
  obtain ⟨T, σ', M, rfl, rm, rs, h⟩ := h
  simp only [evE, evEs, R.bind_ok, List.nil_append] at h
  refine wpAny_Call_Name_kw (ld_glob I hg hm ?_ hdb)
  refine PySem.W.callWith_KW0 (h₀ := X.base) I.ok.mod.kin hk hall ?_ (by rw [hno]; rfl)
  let P : List V → Hp → Prop := fun vs H1 => vs.length = names.length ∧ SPf G Tb fn F.np n (ks.map fun k => vs.getD k .non) H1 Q (WE Wx σ)
  have rd : TAx G Wx (evCall G.kl Tb n) cs σ T.H P := by
    refine ⟨T, σ', M, rfl, rm, rs, ?_⟩
    cases q : evEs G.kl (evCall G.kl Tb n) cs σ' M with
    | ok ws M1 =>
      rw [q] at h
      intro vs T1 e1 rm1 i1
      have hh := Sat.ext XW.mono e1 h
      exact ⟨by rw [i1.length, evEs_len q, hn], T1, _, M1, rfl, rm1, isVs_pick i1 ks, evCall_len hT hh.ne_bad, hh⟩
    | exc a b d => rw [q] at h; exact h
    | bad => rw [q] at h; exact h
  refine thn (ha.run pos pins s σ T.H P I rd) fun us s1 ⟨vs, H1, I1, r1, hl, q1⟩ => ⟨I1.kIn, ?_⟩
  rw [hks]
  show wpAny _ _ (call (.ref f) [] (names.zip us)) _ _ _
  refine wpAny_call (codeAny_mono (FG.run X.A X.stack s1 H1 ⟨[], names.zip us⟩ (ks.map fun k => us.getD k .none) _ Q (WE Wx σ) hr hgd I1.env0 (hb s1 us I1.kIn (by rw [← r1.length]; exact hl)) (vals_pick r1 ks) q1) fun r s' hq => ?_)
  cases r with
  | error e => exact passAt tk σ pins H1 s1 e s' I1 hq
  | ok fl =>
    cases fl with
    | ret u => exact I1.after hq
    | next => exact False.elim hq
    | brk => exact False.elim hq
    | cont => exact False.elim hq
end
end Sg
end

section
set_option Elab.async false
set_option linter.all false
set_option maxRecDepth 100000
set_option maxHeartbeats 4000000
/-! Sg, part 18: own errors whose __init__ says super().__init__(..). -/
namespace Sg
open PySem PySem.Spec PyProof.Rows L2 PySem.W PySem.Calls

/-- what the written part says of an error class and of its __init__ -/
structure InitC (P : Program) (K : PySem.W.Frag) (C fI cc cda : Addr) : Prop where
  oex : OexC K C
  cell : ∃ cl cld csl, K.lookup cc = some ⟨cl, cld, .cell (some (.ref C)), csl⟩
  code : ∃ ccl cdd vs ccs file tf, K.lookup cda = some ⟨ccl, cdd, .fields vs, ccs⟩ ∧ vs[2]? = some (.str file tf) ∧ ((P.main.file : Str) == file) = true
  sup : nsIn K mainGlobals "super" = some none
  par : ks_superIn K C C "__init__" = some (some (.builtin "ValueError.__init__"))
  self : mroIn K C (.ref C) = some true
  ve : subIn K (.ref C) (.type "ValueError") = some true
  opq : nsIn K cStatics "thirdparty.any" = some none
  top : (P.main.scope.names.lookup ("super" : Str)).isSome = false
  init : findIn K (.ref C) "__init__" = some (some (.ref fI))
  ty : typeIn K (.ref fI) = some (.type "function")
/-- the heap at the call: what the written part and the names say -/
structure Ground (K : PySem.W.Frag) (mg : Str → Option Value) (h : Heap) : Prop where
  kin : K.In h
  glob : h.Ns mainGlobals mg
  blt : ∃ mb, h.Ns builtinsNs mb ∧ ∀ x : Str, x ≠ "__name__" → mb x = bootBuiltins x
  lim : h.NoLimit
theorem Ground.keeps {K : PySem.W.Frag} {mg : Str → Option Value} {h h' : Heap} (g : Ground K mg h) (k : ∀ b o, h.get? b = some o → h'.get? b = some o) : Ground K mg h' :=
  ⟨g.kin.keeps k, g.glob.keeps k, let ⟨mb, a, b⟩ := g.blt; ⟨mb, a.keeps k, b⟩, g.lim.keeps k⟩
section
variable {P : Program} {w : World} {A : Around} {E : Value → Shared → Prop} {K : PySem.W.Frag} {mg : Str → Option Value} {C fI cc cda a t0 : Addr}
theorem boot_super : bootBuiltins "super" = some (.type "super") := by decide +kernel
/-- super().__init__, as far as the call -/
theorem super_method {body : List Stmt} {env : Env} {p0 p1 : Pos} {whole : Sem Value} {pl : Sem Bool} {fd : FuncData} {oc : Value} {od : Option Addr} {osl : Array (Option Value)} {ar : Arg} {m : Str → Option Value} {Q : Value × List Value → Shared → Prop} {s : Shared}
    (D : InitC P K C fI cc cda) (G : Ground K mg s.heap) (hm : mg "super" = none) (lk : K.lookup fI = some ⟨oc, od, .func fd, osl⟩) (hp : (fd.params.posonlyargs ++ fd.params.args).head? = some ar)
    (hk : env.scope.kind = .function) (hks : env.kindOf "super" = some .globalImplicit) (hkc : env.kindOf "__class__" = some .free) (hka : env.kindOf ar.arg = some .local) (hfu : env.func = some fI) (hco : env.code = .ref cda) (hgl : env.globals = mainGlobals) (hbl : env.builtins = builtinsNs)
    (hce : env.cells.lookup ("__class__" : Str) = some cc) (hn : s.heap.Ns env.locals m) (hv : m ar.arg = some (.ref a)) (ho : s.heap.get? a = some (PySem.HandSPX.excO C t0))
    (h : ∀ (u : Addr) (h' : Heap), (∀ b o, s.heap.get? b = some o → h'.get? b = some o) → h'.get? u = some (kxs_mw "ValueError.__init__" a) → ∀ t, Q (.ref u, []) { s with heap := h', toks := t }) :
    _root_.PySem.wpAt (model P w) A (.func body env) (attributeBase (.Call (.Name "super" p0) [] [] p1) "__init__" env whole) (fun ov s₁ => wpAny (model P w) A (getMethod ov "__init__" pl) Q E s₁) E s := by
  obtain ⟨ccl, cdd, vs, ccs, file, tf, hcode, hvs, hfile⟩ := D.code
  obtain ⟨cl, cld, csl, hcell⟩ := D.cell
  obtain ⟨nm, q, N, bs, bm, sn, sub, ab, col, dd, k0, k1, k2, k3, k5, hC, hbm⟩ := D.oex.cls
  obtain ⟨mb, hb1, hb2⟩ := G.blt
  have I : InstAt s.heap a (PySem.HandSPX.excO C t0) C none := ⟨ho, rfl, rfl, trivial⟩
  have hcl : clsIn K C = some { name := nm, bases := bs, mro := .ref C :: bm, ns := N, qualname := q, hasDict := true, slotNames := sn, subclasses := sub, abstract := ab, collection := col, hasDel := false } := by unfold clsIn; rw [hC] <;> rfl
  obtain ⟨hh, g, d, t, os⟩ := s
  refine ks_wpAt_super_base (env := env) hks hkc (by decide) hfu (G.kin _ _ lk) rfl hp hco (G.kin _ _ hcode) rfl hvs hfile D.top ?_
  refine ks_loadName_global hk hks (loadGlobal_builtin (env := env) (by rw [hgl]; exact G.glob) hm (by rw [hbl]; exact hb1) ((hb2 _ (by decide +kernel)).trans boot_super) ⟨rfl, ?_⟩)
  refine wpAny_loadName_free hk hkc hce ⟨_, G.kin _ _ hcell, rfl⟩ ?_
  refine wpAny_loadName_local hk hka hn hv ?_
  refine ks_wpAny_isType_cls (G.kin _ _ hC) rfl ⟨rfl, ?_⟩
  refine ks_wpAny_call_super (G.kin _ _ hC) rfl ho rfl (fun c e => nomatch e) (looks_mroIn G.kin D.self) (fun h' e k => ?_)
  have X' : K.In h' := G.kin.keeps k
  have I' : InstAt h' a (PySem.HandSPX.excO C t0) C none := ⟨k _ _ ho, rfl, rfl, trivial⟩
  have hpar := D.par
  unfold ks_superIn at hpar
  rw [hcl] at hpar
  refine kxs_getMethod kxs_ValueError e (looks_opaque X' D.opq) (l₀ := .ref C :: bm) ?_ rfl X' hpar (I'.type.andThen (looks_subIn X' D.ve)) (ks_ne X' I' hcl) (by decide) ?_
  · exact fun A Q E s k q => wpAny_bind ((looks_clsIn X' hcl) A _ E s k (wpAny_pure q))
  · exact h h'.objs.size _ (fun b o e => Heap.get?_push_of_some _ (k b o e)) (Heap.get?_push_size _ rfl) (t + 1)
/-- the bound __init__ is called: the args are laid anew -/
theorem super_call {u : Addr} {rest : List Value} {Q : Value → Shared → Prop} {s : Shared} (D : InitC P K C fI cc cda) (G : Ground K mg s.heap) (hu : s.heap.get? u = some (kxs_mw "ValueError.__init__" a)) (ho : s.heap.get? a = some (PySem.HandSPX.excO C t0)) (hz : rest.length ≤ sizeLine)
    (h : ∀ (t1 : Addr) (h' : Heap), (∀ b o, b ≠ a → s.heap.get? b = some o → h'.get? b = some o) → h'.get? a = some (PySem.HandSPX.excO C t1) → Q .none { s with heap := h' }) :
    wpAny (model P w) A (call (.ref u) rest) Q E s := by
  obtain ⟨nm, q, N, bs, bm, sn, sub, ab, col, dd, k0, k1, k2, k3, k5, hC, hbm⟩ := D.oex.cls
  have hC' := G.kin _ _ hC
  obtain ⟨hh, g, d, tk, os⟩ := s
  refine wpAny_call (codeAny_of_tree ?_)
  show wpAny _ A.in1 (callAny (.ref u) ⟨rest, []⟩) _ _ _
  simp only [callAny]
  refine wpAny_bind (wpAny_load hu ?_)
  simp only [kxs_mw, show (Value.type "method-wrapper" == Value.type "method" || Value.type "method-wrapper" == Value.type "builtin_function_or_method" || Value.type "method-wrapper" == Value.type "method-wrapper") = true by decide, if_true]
  refine KFB.if_so (by decide) ?_
  refine wpAny_bind (check_bound_init F.excBase_ValueError.toExcCallFacts hC' ho rfl ?_)
  refine wpAny_bind (wpAny_pure (wpAny_pure ?_))
  refine ⟨plainId_quiet F.excBase_ValueError.init.plain _, codeAny_builtin F.excBase_ValueError.initEntry ?_⟩
  exact exc_init_tree (cls := .ref C) (t0 := t0) (dv := none) (c2 := .none) (c3 := .none) (b4 := .bool false) ho hz fun h' k e1 e2 => h hh.objs.size h' k e1

/-- self, and what else is given -/
def selfArgs (as : List Arg) : Arguments := { posonlyargs := [], args := as, vararg := none, kwonlyargs := [], kw_defaults := [], kwarg := none, defaults := [] }
/-- super().__init__(..) -/
def supSt (es : List Expr) (p0 p1 p2 p3 p4 p5 : Pos) : Stmt := .Expr (.Call (.Attribute (.Call (.Name "super" p0) [] [] p1) "__init__" p2) es [] p3) p4
structure ScopeI (sc : Scope) (ps : List Str) : Prop where
  kind : sc.kind = .function
  co : sc.isCoroutine = false
  gen : sc.isGenerator = false
  nocell : ∀ y ∈ sc.names, y.2 ≠ .cell
  sup : sc.names.lookup ("super" : Str) = some .globalImplicit
  cls : sc.names.lookup ("__class__" : Str) = some .free
  loc : ∀ x ∈ ps, sc.names.lookup x = some .local
theorem ns_keep {h h' : Heap} {L x : Addr} {m : Str → Option Value} (n : h.Ns L m) (k : ∀ b o, b ≠ x → h.get? b = some o → h'.get? b = some o) (ne : L ≠ x) : h'.Ns L m := by
  obtain ⟨oL, es, ep, hL, r⟩ := n
  exact ⟨oL, es, ep, k _ _ ne hL, r⟩
theorem mc_eq {o : Expr} {name : Str} {apos pos : Pos} {args : List Expr} {env : Env} (hf : methodCallForm (args.length + ([] : List Keyword).length) (backTo pos (starEach args env)) (backToKw pos (keywordEach [] env)) = true) (hl : (apos.endLine == pos.line) = true) :
    eval (.Call (.Attribute o name apos) args [] pos) env = (do
      let ov ← attributeBase o name env (eval o env)
      standAt apos.atName
      let (f, first) ← holding [ov] (getMethod ov name (do return (← importBound o env).getD true))
      callWith pos f first (backTo pos (starEach args env)) []) := by
  rw [arm_eval_Call]
  unfold methodCall calleeOf methodCallPos
  rw [hf]
  simp only [if_true, Bool.not_true, Bool.false_or, hl, pure_bind]
  rfl
/-- an __init__ with nothing but super().__init__() -/
theorem init0_code {name qual : Str} {sc : Scope} {dV kV doc pm ct oc : Value} {an od : Option Addr} {osl : Array (Option Value)} {pa : Pos} {p0 p1 p2 p3 p4 p5 : Pos} {R : Result → Shared → Prop} {s : Shared}
    (D : InitC P K C fI cc cda) (G : Ground K mg s.heap) (hm : mg "super" = none) (S : ScopeI sc ["self"]) (hl : (p2.endLine == p3.line) = true)
    (lk : K.lookup fI = some ⟨oc, od, .func (ksFn name qual (selfArgs [⟨"self", none, pa⟩]) [supSt [] p0 p1 p2 p3 p4 p5] sc dV kV doc pm an (.ref cda) ct cc), osl⟩) (hcd : codeIn K (.ref cda) qual = true) (hroom : A.depth < recursionLimit)
    (hbind : bindArgs (ksFn name qual (selfArgs [⟨"self", none, pa⟩]) [supSt [] p0 p1 p2 p3 p4 p5] sc dV kV doc pm an (.ref cda) ct cc) ⟨[Value.ref a], []⟩ = pure [(("self" : Str), Value.ref a)])
    (ho : s.heap.get? a = some (PySem.HandSPX.excO C t0))
    (h : ∀ (t1 : Addr) (h' : Heap) (tk : Nat), (∀ b o, b ≠ a → s.heap.get? b = some o → h'.get? b = some o) → h'.get? a = some (PySem.HandSPX.excO C t1) → R (.ok (.ret .none)) { s with heap := h', toks := tk }) :
    codeAny (model P w) A (.call (.ref fI) ⟨[Value.ref a], []⟩) R s := by
  refine ks_codeAny_call_defAt (body := [supSt [] p0 p1 p2 p3 p4 p5]) hroom (G.kin _ _ lk) rfl G.lim (codeRec_of G.kin hcd) rfl (.of_eq hbind) S.nocell (fun x hx => ?_) (fun h₀ hns kp => ?_) S.co S.gen S.kind
  · have : x = (("self" : Str), Value.ref a) := by simpa using hx
    subst this
    exact S.loc _ (by simp)
  · have G0 := G.keeps kp
    refine ks_wpAt_execs_cons (ks_wpAt_Expr_any (ks_wpAt_MethodCall (super_method D G0 hm lk rfl S.kind S.sup S.cls (S.loc _ (by simp)) rfl rfl rfl rfl rfl hns rfl (kp _ _ ho) fun u h1 k1 hu t => ?_) (mc_eq rfl hl)) (by simp [interactive, callEnv, newEnv, S.kind]) rfl)
    have G1 := G0.keeps k1
    refine kxs_callWith (i := "ValueError.__init__") (x := a) rfl (evalArgs_empty ⟨hu, ?_⟩)
    refine super_call D G1 hu (k1 _ _ (kp _ _ ho)) (Nat.zero_le _) fun t1 h2 k2 e2 => ?_
    refine wpAt_of_wpAny (wpAny_execs_nil ?_)
    exact h t1 h2 t (fun b o nb e => k2 b o nb (k1 b o (kp b o e))) e2
/-- super().__init__(x); self.f = x -/
def fldSt (x f : Str) (p6 p7 p8 p9 : Pos) : Stmt := .Assign [.Attribute (.Name "self" p6) f p7] (.Name x p8) p9
theorem init1_code {name qual x f : Str} {v : Value} {sc : Scope} {dV kV doc pm ct oc : Value} {an od : Option Addr} {osl : Array (Option Value)} {pa pb : Pos} {p0 p1 p2 p3 p4 p5 p6 p7 p8 p9 px : Pos} {R : Result → Shared → Prop} {s : Shared}
    (D : InitC P K C fI cc cda) (G : Ground K mg s.heap) (hm : mg "super" = none) (S : ScopeI sc ["self", x]) (hl : (p2.endLine == p3.line) = true) (hx : (x == ("__debug__" : Str)) = false) (hxs : ("self" : Str) ≠ x) (hno : findIn K (.ref C) f = some none)
    (lk : K.lookup fI = some ⟨oc, od, .func (ksFn name qual (selfArgs [⟨"self", none, pa⟩, ⟨x, none, pb⟩]) [supSt [.Name x px] p0 p1 p2 p3 p4 p5, fldSt x f p6 p7 p8 p9] sc dV kV doc pm an (.ref cda) ct cc), osl⟩) (hcd : codeIn K (.ref cda) qual = true) (hroom : A.depth < recursionLimit)
    (hbind : bindArgs (ksFn name qual (selfArgs [⟨"self", none, pa⟩, ⟨x, none, pb⟩]) [supSt [.Name x px] p0 p1 p2 p3 p4 p5, fldSt x f p6 p7 p8 p9] sc dV kV doc pm an (.ref cda) ct cc) ⟨[Value.ref a, v], []⟩ = pure [(("self" : Str), Value.ref a), (x, v)])
    (ho : s.heap.get? a = some (PySem.HandSPX.excO C t0)) (hna : K.lookup a = none)
    (h : ∀ (t1 dx : Addr) (h' : Heap) (tk : Nat), (∀ b o, b ≠ a → s.heap.get? b = some o → h'.get? b = some o) → s.heap.objs.size ≤ dx → dx ≠ a → h'.get? a = some { cls := .ref C, dict := some dx, data := .fields #[.ref t1, .none, .none, .none, .bool false, .none] } →
      h'.Ns1 dx (fun y => if y = f then some v else none) → R (.ok (.ret .none)) { s with heap := h', toks := tk }) :
    codeAny (model P w) A (.call (.ref fI) ⟨[Value.ref a, v], []⟩) R s := by
  refine ks_codeAny_call_defAt (body := [supSt [.Name x px] p0 p1 p2 p3 p4 p5, fldSt x f p6 p7 p8 p9]) hroom (G.kin _ _ lk) rfl G.lim (codeRec_of G.kin hcd) rfl (.of_eq hbind) S.nocell (fun y hy => ?_) (fun h₀ hns kp => ?_) S.co S.gen S.kind
  · have : y = (("self" : Str), Value.ref a) ∨ y = (x, v) := by simpa using hy
    rcases this with rfl | rfl
    · exact S.loc _ (by simp)
    · exact S.loc _ (by simp)
  · have lx : ∀ env : Env, env.scope = sc → env.kindOf x = some .local := fun env e => by
      show env.scope.names.lookup x = _
      rw [e]
      exact S.loc x (by simp)
    have ls : ∀ env : Env, env.scope = sc → env.kindOf ("self" : Str) = some .local := fun env e => by
      show env.scope.names.lookup ("self" : Str) = _
      rw [e]
      exact S.loc _ (by simp)
    have G0 := G.keeps kp
    have hal : a < s.heap.objs.size := Heap.lt_size ho
    have m1 : ([(("self" : Str), Value.ref a), (x, v)].reverse.lookup ("self" : Str)) = some (Value.ref a) := by
      have : (("self" : Str) == x) = false := by simpa using hxs
      simp [List.lookup, this]
    have m2 : ([(("self" : Str), Value.ref a), (x, v)].reverse.lookup x) = some v := by simp [List.lookup]
    refine ks_wpAt_execs_cons (ks_wpAt_Expr_any (ks_wpAt_MethodCall (super_method D G0 hm lk rfl S.kind S.sup S.cls (S.loc _ (by simp)) rfl rfl rfl rfl rfl hns m1 (kp _ _ ho) fun u h1 k1 hu t => ?_) (mc_eq rfl hl)) (by simp [interactive, callEnv, newEnv, S.kind]) rfl)
    have G1 := G0.keeps k1
    have hns1 := hns.keeps k1
    refine kxs_callWith (i := "ValueError.__init__") (x := a) rfl (evalArgs_plain (spliced_more (wpAny_Name (wpAny_loadName_local S.kind (lx _ rfl) hns1 m2 (spliced_none ⟨hu, ?_⟩)) hx)))
    refine super_call D G1 hu (k1 _ _ (kp _ _ ho)) (by show 1 ≤ sizeLine; decide) fun t1 h2 k2 e2 => ?_
    have neL : s.heap.objs.size ≠ a := Nat.ne_of_gt hal
    have hns2 := ns_keep hns1 k2 neL
    have X2 : K.In h2 := fun b o e => k2 b o (fun z => by
      subst z
      rw [hna] at e
      cases e) (G1.kin _ _ e)
    obtain ⟨nm, q, N, bs, bm, sn, sub, ab, col, dd, k0, k1', k2', k3, k5, hC, hbm⟩ := D.oex.cls
    have hcl : clsIn K C = some { name := nm, bases := bs, mro := .ref C :: bm, ns := N, qualname := q, hasDict := true, slotNames := sn, subclasses := sub, abstract := ab, collection := col, hasDel := false } := by unfold clsIn; rw [hC] <;> rfl
    refine ks_wpAt_execs_cons (wpAt_of_wpAny (plainObj_wpAny_Assign_Attribute (wpAny_Name (wpAny_loadName_local S.kind (lx _ rfl) hns2 m2 (wpAny_Name (wpAny_loadName_local S.kind (ls _ rfl) hns2 m1 ?_) (by decide))) hx) rfl))
    refine set_plain X2 (ox := { cls := .ref C, dict := none, data := .fields #[.ref t1, .none, .none, .none, .bool false, .none] }) (od := none) ⟨e2, rfl, rfl, trivial⟩ D.oex.sa ?_
    refine PySem.HandSPX.exc_osa X2 e2 hcl (show PySem.HandSPX.refsVE (.ref C :: bm) = true from hbm) rfl hno (fun h3 tk dx k3 dn dne hx3 hn3 => ?_)
    refine wpAt_of_wpAny (wpAny_execs_nil ?_)
    have big : s.heap.objs.size ≤ dx := by
      refine Nat.le_trans ?_ dn
      obtain ⟨oL, _, _, hL, _⟩ := hns2
      exact Nat.le_of_lt (Heap.lt_size hL)
    exact h t1 dx h3 tk (fun b o nb e => k3 b o nb (k2 b o nb (k1 b o (kp b o e)))) big dne hx3 hn3
end
end Sg
end

section
set_option Elab.async false
set_option linter.all false
set_option maxRecDepth 100000
set_option maxHeartbeats 2000000
/-! Sg, part 12: the checker: that a compact text is the text of the program. -/
namespace Sg
open PySem PySem.Spec PyProof.Rows L2

structure Gs where
  tb : List (String × Fn)
  gl : List (String × Vl)
  /-- the classes of errors: the field of each, what it is -/
  xc : List (String × (Option String × List String))
  /-- those that are raised -/
  rs : List String
  /-- calls by keywords alone: the def, the names as they are given, for each parameter the place of its name -/
  kw : List (String × List String × List Nat)
def Gs.kl (S : Gs) : Kls := ⟨fun c => (S.xc.lookup c).map (·.1), fun c d => match S.xc.lookup c with | some p => p.2.contains d | none => false⟩
def Gs.T (S : Gs) : Tbl := fun f => S.tb.lookup f
/-- where one is in the text: the names by slot, the scope, the scope as written, no suite of an except clause -/
structure At where
  N : List Str
  sc : Scope
  fs : Scope
  calm : Bool
  top : Bool
def vis (A : At) (x : Str) : Bool := match A.sc.names.lookup x with | some .local => true | some .cell => true | some .free => true | _ => false
def glo (A : At) (x : Str) : Bool := match A.sc.names.lookup x with | some .globalImplicit => true | _ => false
def lcl (A : At) (x : Str) : Bool := match A.sc.names.lookup x with | some .local => true | _ => false
def sto (A : At) (x : Str) : Bool := match A.sc.names.lookup x with | some .local => true | some .cell => (match A.fs.names.lookup x with | some .cell => true | _ => false) | _ => false
def plainName (x : Str) : Bool := !(x == ("__debug__" : Str)) && !(x == ("__classdict__" : Str)) && !(x == ("__name__" : Str))
def slot (A : At) (i : Nat) (x : Str) : Bool := decide (A.N[i]? = some x)
def bnames : List Str := ["len", "int", "abs", "repr", "tuple", "list", "sorted", "set", "sum", "max", "min", "all", "isinstance", "bool", "str", "dict", "enumerate", "zip", "range"]
/-- a built-in's own name -/
def bin_ (A : At) (x y : Str) : Bool := decide (x = y) && glo A x
/-- the scope of a block within -/
def rl (scope sc : Scope) : Scope := { scope with names := scope.names.map fun (n, k) => if (k == .free && sc.kind == .function && sc.names.lookup n == some .cell) then (n, .cell) else (n, k) }
def blkAt (A : At) (scope : Scope) : At := ⟨A.N, rl scope A.sc, scope, A.calm, false⟩
def notStar : Expr → Bool | .Starred .. => false | _ => true
def notSlice : Expr → Bool | .Slice .. => false | _ => true
def notCall : Expr → Bool | .Call .. => false | _ => true
def notSet : Expr → Bool | .Set .. => false | _ => true
def notComp : Expr → Bool | .ListComp .. => false | .SetComp .. => false | .DictComp .. => false | _ => true
def plainT : Expr → Bool | .UnaryOp .Not _ _ => false | .BoolOp .. => false | .IfExp .. => false | .Compare .. => false | _ => true
def stars (es : List Expr) : Bool := es.all notStar
def opIs : Op2 → Operator → Bool
  | .add, .Add => true | .sub, .Sub => true | .mul, .Mult => true | .fdiv, .FloorDiv => true | .mod, .Mod => true | .pow, .Pow => true
  | _, _ => false
def copIs : Cop → CmpOp → Bool
  | .eq, .Eq => true | .ne, .NotEq => true | .lt, .Lt => true | .le, .LtE => true | .gt, .Gt => true | .ge, .GtE => true | .in_, .In => true | .nin, .NotIn => true
  | _, _ => false
def tailE (op : BoolOp) (es : List Expr) (p : Pos) : Expr := match es with | [e] => e | es => .BoolOp op es p
/-- the built-in functions, the built-in types -/
def biB : BI → Option (String × Bool)
  | .len => some ("len", false) | .abs => some ("abs", false) | .repr => some ("repr", true) | .sorted _ => some ("sorted", false)
  | .sum => some ("sum", true) | .max1 => some ("max", true) | .max2 => some ("max", true) | .min1 => some ("min", true) | .min2 => some ("min", true) | .all => some ("all", true)
  | _ => none
def biT : BI → Option String
  | .int => some "int" | .tuple => some "tuple" | .list _ => some "list"
  | _ => none
def mtN : BM → String
  | .append => "append" | .pop => "pop" | .popAt => "pop" | .insert => "insert" | .extend => "extend" | .remove => "remove" | .index => "index"
def isNoneC : Expr → Bool | .Constant .none _ _ => true | _ => false
def chkTg (A : At) : Tg → Expr → Bool
  | .nm i, .Name x _ => slot A i x && sto A x
  | .tp l, .Tuple es _ _ => A.calm && go l es
  | _, _ => false
where go : List Nat → List Expr → Bool
  | [], [] => true
  | i :: l, .Name x _ :: es => slot A i x && sto A x && go l es
  | _, _ => false
def minus1 : Expr → Bool
  | .UnaryOp .USub (.Constant (.int i) _ _) _ => decide (i = 1)
  | _ => false
def isNoneE : E → Bool | .cst .non => true | _ => false
def chkKs : Es → List (Option Expr) → Bool
  | .nil, [] => true
  | .cons (.cst (.str s)) ks, some (.Constant (.str t) _ _) :: es => decide (s = t) && chkKs ks es
  | .cons (.cst (.int s)) ks, some (.Constant (.int t) _ _) :: es => decide (s = t) && chkKs ks es
  | _, _ => false
def notTup : Expr → Bool | .Tuple .. => false | _ => true
def tupTg (src : Sr) (t : Expr) : Bool :=
  match src with
  | .enum _ => !notTup t
  | .zip _ _ => !notTup t
  | _ => true
/-- the names of the keywords -/
def kwNames : List String → List Keyword → Bool
  | [], [] => true
  | n :: ns, ⟨some m, _, _⟩ :: ks => decide (m = Str.ofString n) && kwNames ns ks
  | _, _ => false
mutual
def chkE (S : Gs) : E → At → Expr → Bool
  | .var i, A, e => (match e with
    | .Name x _ => slot A i x && vis A x && plainName x
    | _ => false)
  | .cst w, _, e => (match e with
    | .Constant c _ _ => (match w, c with
      | .int i, .int j => decide (i = j)
      | .bl i, .bool j => decide (i = j)
      | .str i, .str j => decide (i = j)
      | .non, .none => true
      | _, _ => false)
    | _ => false)
  | .glb n w, A, e => (match e with
    | .Name x _ => decide (x = Str.ofString n) && glo A x && plainName x && S.gl.any (fun p => decide (p.1 = n) && decide (p.2 = w))
    | _ => false)
  | .tup cs, A, e => (match e with
    | .Tuple es _ _ => chkEs S cs A es && decide (esLen cs ≤ 1000)
    | _ => false)
  | .lst _ cs, A, e => (match e with
    | .List es _ => chkEs S cs A es && decide (esLen cs ≤ 1000)
    | _ => false)
  | .dct ks vs, A, e => (match e with
    | .Dict keys values _ => (match keys, values with
      | [], [] => (match ks, vs with | .nil, .nil => true | _, _ => false)
      | keys, values => chkKs ks keys && chkVs S vs A values && decide (keys.length = values.length) && !keys.isEmpty && decide (keys.length ≤ 15))
    | _ => false)
  | .dic, _, e => (match e with
    | .Dict [] [] _ => true
    | _ => false)
  | .bin op _ a b, A, e => (match e with
    | .BinOp e1 o e2 _ => opIs op o && chkE S a A e1 && chkE S b A e2
    | _ => false)
  | .neg a, A, e => (match e with
    | .UnaryOp .USub e1 _ => chkE S a A e1
    | _ => false)
  | .not a, A, e => (match e with
    | .UnaryOp .Not e1 _ => chkE S a A e1
    | _ => false)
  | .and a b, A, e => (match e with
    | .BoolOp .And (e1 :: r :: rest) p => chkE S a A e1 && chkE S b A (tailE .And (r :: rest) p)
    | _ => false)
  | .or a b, A, e => (match e with
    | .BoolOp .Or (e1 :: r :: rest) p => chkE S a A e1 && chkE S b A (tailE .Or (r :: rest) p)
    | _ => false)
  | .cmp op a b, A, e => (match e with
    | .Compare e1 [o] [e2] _ => (match op, o with
      | .isn, .Is => chkE S a A e1 && isNoneC e2 && isNoneE b
      | .nisn, .IsNot => chkE S a A e1 && isNoneC e2 && isNoneE b
      | op, o => copIs op o && notSet e2 && chkE S a A e1 && chkE S b A e2)
    | _ => false)
  | .cmp2 op op' a b c, A, e => (match e with
    | .Compare e1 [o, o'] [e2, e3] _ => copIs op o && copIs op' o' && notSet e3 && chkE S a A e1 && chkE S b A e2 && chkE S c A e3
    | _ => false)
  | .ite c a b, A, e => (match e with
    | .IfExp e1 e2 e3 _ => (if plainT e1 = true then chkE S c A e1 else chkT S c A e1) && chkE S a A e2 && chkE S b A e3
    | _ => false)
  | .idx a i, A, e => (match e with
    | .Subscript e1 e2 _ => chkE S a A e1 && chkE S i A e2 && notSlice e2
    | _ => false)
  | .sl _ a lo hi, A, e => (match e with
    | .Subscript e1 (.Slice l h none _) _ => chkE S a A e1 && chkO S lo A l && chkO S hi A h
    | _ => false)
  | .rev _ a, A, e => (match e with
    | .Subscript e1 (.Slice none none (some (.UnaryOp .USub (.Constant (.int i) _ _) _)) _) _ => chkE S a A e1 && decide (i = 1)
    | _ => false)
  | .comp _ el tg src cs own, A, e => (match e with
    | .ListComp elt [⟨tgt, iter, ifs, k⟩] scope _ => A.calm && decide (k = 0) && (tgNames tg).all (fun i => own.contains i) && chkS S src A iter && tupTg src tgt &&
      blkC A.N A.sc scope (own.map fun i => (A.N.getD i "", i)) && chkTg (blkAt A scope) tg tgt && chkC S cs (blkAt A scope) ifs && chkE S el (blkAt A scope) elt && notSet iter
    | _ => false)
  | .call f cs, A, e => (match e with
    | .Call (.Name x _) es [] _ => A.calm && decide (x = Str.ofString f) && glo A x && plainName x && (S.tb.lookup f).isSome && chkEs S cs A es
    | _ => false)
  | .bi b cs, A, e => (match e with
    | .Call (.Name x _) (e1 :: es) [] _ => (match biB b with
      | some (n, cm) => bin_ A x (Str.ofString n) && (!cm || A.calm) && chkEs S cs A (e1 :: es)
      | none => (match biT b with
        | some n => bin_ A x (Str.ofString n) && chkEs S cs A (e1 :: es)
        | none => (match b, es, cs with
          | .isi t, [.Name y _], .cons c .nil => bin_ A x "isinstance" && bin_ A y (Str.ofString (tyName t)) && chkE S c A e1 && notStar e1
          | _, _, _ => false)))
    | _ => false)
  | .meth m o cs, A, e => (match e with
    | .Call (.Attribute ob name ap) es [] cp => decide (name = Str.ofString (mtN m)) && decide (m ≠ .index) && chkE S o A ob && chkEs S cs A es && notCall ob && (ap.endLine == cp.line) && decide (es.length ≤ 9) && decide (es.isEmpty = decide (m = .pop))
    | _ => false)
  | .callk f es ks kes, A, e => (match es, e with
    | .nil, .Call (.Name x _) [] kws _ => A.calm && decide (x = Str.ofString f) && glo A x && plainName x && (S.tb.lookup f).isSome && (S.kw.any fun q => decide (q.1 = f) && decide (q.2.2 = ks) && kwNames q.2.1 kws) && chkK S kes A kws
    | _, _ => false)
  | .src k _ s, A, e => (match e with
    | .Call (.Name x _) [.Call (.Name y _) es [] _] [] _ => A.calm && bin_ A x (if k = true then "list" else "tuple") && bin_ A y "range" && (match s, es with
      | .rng1 c, [e1] => chkE S c A e1 && notStar e1
      | .rng2 c1 c2, [e1, e2] => chkE S c1 A e1 && chkE S c2 A e2 && notStar e1 && notStar e2
      | _, _ => false)
    | _ => false)
  | .xfld i f, A, e => (match e with
    | .Attribute (.Name x _) g _ => slot A i x && vis A x && plainName x && decide (g = Str.ofString f) && !A.calm
    | _ => false)
  | .xisi i d, A, e => (match e with
    | .Call (.Name y _) [.Name x _, .Name z _] [] _ => bin_ A y "isinstance" && slot A i x && vis A x && plainName x && decide (z = Str.ofString d) && glo A z && plainName z && (S.xc.lookup d).isSome && !A.calm
    | _ => false)
def chkEs (S : Gs) : Es → At → List Expr → Bool
  | .nil, _, l => l.isEmpty
  | .cons c cs, A, l => (match l with
    | e :: es => notStar e && chkE S c A e && chkEs S cs A es
    | [] => false)
def chkVs (S : Gs) : Es → At → List Expr → Bool
  | .nil, _, l => l.isEmpty
  | .cons c cs, A, l => (match l with
    | e :: es => chkE S c A e && chkVs S cs A es
    | [] => false)
def chkK (S : Gs) : Es → At → List Keyword → Bool
  | .nil, _, l => l.isEmpty
  | .cons c cs, A, l => (match l with
    | ⟨_, e, _⟩ :: es => chkE S c A e && chkK S cs A es
    | [] => false)
def chkO (S : Gs) : OE → At → Option Expr → Bool
  | .no, _, o => o.isNone
  | .so c, A, o => (match o with
    | some e => chkE S c A e
    | none => false)
def chkC (S : Gs) : Es → At → List Expr → Bool
  | .nil, _, l => l.isEmpty
  | .cons c r, A, l => (match r, l with
    | .nil, [e] => if plainT e = true then chkE S c A e else chkT S c A e
    | _, _ => false)
def chkS (S : Gs) : Sr → At → Expr → Bool
  | .enum c, A, e => (match e with
    | .Call (.Name x _) [e1] [] _ => bin_ A x "enumerate" && chkE S c A e1 && notStar e1
    | _ => false)
  | .zip c1 c2, A, e => (match e with
    | .Call (.Name x _) [e1, e2] [] _ => bin_ A x "zip" && chkE S c1 A e1 && chkE S c2 A e2 && notStar e1 && notStar e2
    | _ => false)
  | .rng1 c, A, e => (match e with
    | .Call (.Name x _) [e1] [] _ => bin_ A x "range" && chkE S c A e1 && notStar e1
    | _ => false)
  | .rng2 c1 c2, A, e => (match e with
    | .Call (.Name x _) [e1, e2] [] _ => bin_ A x "range" && chkE S c1 A e1 && chkE S c2 A e2 && notStar e1 && notStar e2
    | _ => false)
  | .val c, A, e => chkE S c A e
def chkT (S : Gs) : E → At → Expr → Bool
  | .not a, A, e => (match e with
    | .UnaryOp .Not e1 _ => if plainT e1 = true then chkE S a A e1 else chkT S a A e1
    | _ => false)
  | .and a b, A, e => (match e with
    | .BoolOp .And (e1 :: r :: rest) p => (if plainT e1 = true then chkE S a A e1 else chkT S a A e1) && (if plainT (tailE .And (r :: rest) p) = true then chkE S b A (tailE .And (r :: rest) p) else chkT S b A (tailE .And (r :: rest) p))
    | _ => false)
  | .or a b, A, e => (match e with
    | .BoolOp .Or (e1 :: r :: rest) p => (if plainT e1 = true then chkE S a A e1 else chkT S a A e1) && (if plainT (tailE .Or (r :: rest) p) = true then chkE S b A (tailE .Or (r :: rest) p) else chkT S b A (tailE .Or (r :: rest) p))
    | _ => false)
  | .cmp op a b, A, e => (match e with
    | .Compare e1 [o] [e2] _ => (match op, o with
      | .isn, .Is => chkE S a A e1 && isNoneC e2 && isNoneE b
      | .nisn, .IsNot => chkE S a A e1 && isNoneC e2 && isNoneE b
      | op, o => copIs op o && notSet e2 && chkE S a A e1 && chkE S b A e2)
    | _ => false)
  | .cmp2 op op' a b c, A, e => (match e with
    | .Compare e1 [o, o'] [e2, e3] _ => copIs op o && copIs op' o' && notSet e3 && chkE S a A e1 && chkE S b A e2 && chkE S c A e3
    | _ => false)
  | _, _, _ => false
end
/-- a test -/
def tst (S : Gs) (c : E) (A : At) (e : Expr) : Bool := if plainT e = true then chkE S c A e else chkT S c A e

/-- a list that is stored as it is made -/
def swapB (A : At) (x : Str) (px : Pos) : Expr → Bool
  | .ListComp _ _ scope p => lcl A x && (px.line == p.line) && !(scope.names.any fun (n, k) => n == x && (k == .local || k == .cell))
  | _ => false
def isLC : Expr → Bool | .ListComp .. => true | _ => false
/-- names, one line -/
def parNames (A : At) : List Nat → List Expr → Option (List Str)
  | [], [] => some []
  | i :: l, .Name x _ :: es => if slot A i x = true ∧ lcl A x = true then (parNames A l es).map (x :: ·) else none
  | _, _ => none
def sameLine : List Expr → Bool
  | .Name _ p :: es => es.all fun | .Name _ q => q.line == p.line | _ => false
  | _ => false
def parB (A : At) (l : List Nat) (ts vs : List Expr) : Bool :=
  (decide (l.length = 2) || decide (l.length = 3)) && (parNames A l ts).isSome && sameLine ts && decide l.Nodup && !(vs.all (foldedForSure 8)) && !(vs.all (constantsAlone 8)) && A.calm
/-- stored from the left, as a made tuple is -/
def serB (A : At) (l : List Nat) (ts vs : List Expr) : Bool :=
  chkTg A (.tp l) (.Tuple ts 0 ⟨0, 0, 0, 0⟩) && (vs.all (foldedForSure 8) || !(decide (l.length = 2) || decide (l.length = 3)) || (ts.any fun | .Name x _ => !lcl A x | _ => false))
mutual
def chkSt (Z : Gs) : S → At → Stmt → Bool
  | .expr c, A, s => (match s with
    | .Expr e _ => chkE Z c A e && notComp e
    | _ => false)
  | .set i c, A, s => (match s with
    | .Assign [.Name x px] e _ => slot A i x && sto A x && chkE Z c A e && (notComp e || isLC e)
    | _ => false)
  | .setT l c, A, s => (match s with
    | .Assign [.Tuple ts k tp] e _ => chkTg A (.tp l) (.Tuple ts k tp) && chkE Z c A e && notTup e
    | _ => false)
  | .par l cs, A, s => (match s with
    | .Assign [.Tuple ts _ _] (.Tuple vs _ _) _ => (parB A l ts vs || serB A l ts vs) && chkEs Z cs A vs && decide (esLen cs = l.length) && decide (esLen cs ≤ 1000)
    | _ => false)
  | .setI o i c, A, s => (match s with
    | .Assign [.Subscript ob ix _] e _ => chkE Z c A e && chkE Z o A ob && chkE Z i A ix && notSlice ix
    | _ => false)
  | .augI o i c, A, s => (match s with
    | .AugAssign (.Subscript ob ix _) .Add e _ => chkE Z c A e && chkE Z o A ob && chkE Z i A ix && notSlice ix
    | _ => false)
  | .augN i c, A, s => (match s with
    | .AugAssign (.Name x _) .Add e _ => slot A i x && sto A x && chkE Z c A e
    | _ => false)
  | .ret c, A, s => (match s with
    | .Return (some e) _ => chkE Z c A e
    | _ => false)
  | .retN, _, s => (match s with
    | .Return none _ => true
    | _ => false)
  | .ife c a b, A, s => (match s with
    | .If e t u _ => tst Z c A e && chkSs Z a A t && chkSs Z b A u
    | _ => false)
  | .for_ tg src b, A, s => (match s with
    | .For t it body [] _ => A.calm && chkTg A tg t && chkS Z src A it && tupTg src t && notSet it && chkSs Z b A body
    | _ => false)
  | .while_ c b, A, s => (match s with
    | .While e body [] _ => A.calm && tst Z c A e && chkSs Z b A body
    | _ => false)
  | .raise c cs, A, s => (match s with
    | .Raise (some (.Call (.Name x _) es [] _)) none _ => A.calm && decide (x = Str.ofString c) && glo A x && plainName x && Z.rs.contains c && chkEs Z cs A es && (match Z.xc.lookup c with
      | some (none, _) => es.isEmpty
      | some (some _, _) => decide (es.length = 1)
      | none => false)
    | _ => false)
  | .try_ b hs, A, s => (match s with
    | .Try body hds [] [] _ => A.calm && A.top && chkSs Z b { A with top := false } body && chkHs Z hs A hds && !hds.isEmpty
    | _ => false)
  | .pass, _, s => (match s with
    | .Pass _ => true
    | _ => false)
  | .brk, _, s => (match s with
    | .Break _ => true
    | _ => false)
  | .cnt, _, s => (match s with
    | .Continue _ => true
    | _ => false)
def chkSs (Z : Gs) : Ss → At → List Stmt → Bool
  | .nil, _, l => l.isEmpty
  | .cons c cs, A, l => (match l with
    | e :: es => chkSt Z c A e && chkSs Z cs A es
    | [] => false)
def chkHs (Z : Gs) : Hs → At → List ExceptHandler → Bool
  | .nil, _, l => l.isEmpty
  | .cons c i b r, A, l => (match l with
    | .ExceptHandler (some (.Name x _)) n body _ :: hds => decide (x = Str.ofString c) && glo A x && plainName x && (Z.xc.lookup c).isSome && (match i, n with
      | none, none => true
      | some i, some y => slot A i y && lcl A y
      | _, _ => false) && chkSs Z b { A with calm := false, top := false } body && !body.isEmpty && chkHs Z r A hds
    | _ => false)
end
/-! ### a def -/
def argsOf (a : Arguments) : Option (List Str) :=
  match a with
  | ⟨[], as, none, [], [], none, []⟩ => some (as.map (·.arg))
  | _ => none
def chkFn (Z : Gs) (F : Fn) (N : List Str) (st : Stmt) : Bool :=
  match argsOf (defArgs st) with
  | none => false
  | some ps => decide (ps.length = F.np) && decide (N.length = F.nl) && decide N.Nodup && decide (N.take ps.length = ps) &&
    (match (defScope st).kind with | .function => true | _ => false) && !(defScope st).isCoroutine && !(defScope st).isGenerator &&
    (ps.all fun x => match (defScope st).names.lookup x with | some .local => true | some .cell => true | _ => false) && ((defScope st).names.all fun y => match y.2 with | .free => false | _ => true) &&
    chkSs Z F.body ⟨N, defScope st, defScope st, true, true⟩ (defBody st)
end Sg
end

section
set_option Elab.async false
set_option linter.all false
set_option maxRecDepth 100000
set_option maxHeartbeats 2000000
/-! Sg, part 13: what the checker takes is walked as the evaluator says. -/
namespace Sg
open PySem PySem.Spec PyProof.Rows L2

/-- what a def of the table is, called at n turns of depth -/
structure FnAt (G : Pg) (Z : Gs) (n : Nat) (X : Cx) (f : String) (F : Fn) : Prop where
  ex : ∃ (a : Addr) (fd : FuncData) (ps : List Str), X.mg (Str.ofString f) = some (.ref a) ∧ PySem.W.keepIn X.K (.ref a) = true ∧ Binds X.K fd ps [] ∧ (∀ names ks, (f, names, ks) ∈ Z.kw → KwB X.K fd ps (names.map Str.ofString) ks) ∧ FnG X.prog X.w X.K X.mg X.base (n + 1) a fd ps (SPf G Z.T f F.np n)
/-- the classes of errors, as the written part has them -/
structure XcOk (G : Pg) (Z : Gs) (K : PySem.W.Frag) (mg : Str → Option Value) : Prop where
  at_ : ∀ c p, Z.xc.lookup c = some p → ∃ C, G.cA c = some C ∧ mg (Str.ofString c) = some (.ref C)
  sub : ∀ c d pc pd C D, Z.xc.lookup c = some pc → Z.xc.lookup d = some pd → G.cA c = some C → G.cA d = some D → PySem.W.exmOne K (.ref C) (.ref D) = some (Z.kl.sub c d) ∧ PySem.W.kitOne K (.ref C) (.ref D) = some (Z.kl.sub c d)
  isE : ∀ c p C, Z.xc.lookup c = some p → G.cA c = some C → ExcC K C
  fld : ∀ c f q C, Z.xc.lookup c = some (some f, q) → G.cA c = some C → XfC K C ∧ PySem.W.findIn K (.ref C) (Str.ofString f) = some none
/-- an error class that is raised: its __init__ -/
structure ErrOk (G : Pg) (P : Program) (K : PySem.W.Frag) (mg : Str → Option Value) (c : String) (fo : Option String) : Prop where
  ex : ∃ C fI cc cda, G.cA c = some C ∧ InitC P K C fI cc cda ∧ mg "super" = none ∧ (match fo with
    | none => ∃ (name qual : Str) (sc : Scope) (dV kV doc pm ct oc : Value) (an od : Option Addr) (osl : Array (Option Value)) (pa p0 p1 p2 p3 p4 p5 : Pos), ScopeI sc ["self"] ∧ (p2.endLine == p3.line) = true ∧
        K.lookup fI = some ⟨oc, od, .func (PySem.W.ksFn name qual (selfArgs [⟨"self", none, pa⟩]) [supSt [] p0 p1 p2 p3 p4 p5] sc dV kV doc pm an (.ref cda) ct cc), osl⟩ ∧ PySem.W.codeIn K (.ref cda) qual = true ∧
        ∀ a, bindArgs (PySem.W.ksFn name qual (selfArgs [⟨"self", none, pa⟩]) [supSt [] p0 p1 p2 p3 p4 p5] sc dV kV doc pm an (.ref cda) ct cc) ⟨[Value.ref a], []⟩ = pure [(("self" : Str), Value.ref a)]
    | some f => ∃ (name qual x : Str) (sc : Scope) (dV kV doc pm ct oc : Value) (an od : Option Addr) (osl : Array (Option Value)) (pa pb p0 p1 p2 p3 p4 p5 p6 p7 p8 p9 px : Pos), ScopeI sc ["self", x] ∧ (p2.endLine == p3.line) = true ∧ (x == ("__debug__" : Str)) = false ∧ ("self" : Str) ≠ x ∧
        PySem.W.findIn K (.ref C) (Str.ofString f) = some none ∧
        K.lookup fI = some ⟨oc, od, .func (PySem.W.ksFn name qual (selfArgs [⟨"self", none, pa⟩, ⟨x, none, pb⟩]) [supSt [.Name x px] p0 p1 p2 p3 p4 p5, fldSt x (Str.ofString f) p6 p7 p8 p9] sc dV kV doc pm an (.ref cda) ct cc), osl⟩ ∧ PySem.W.codeIn K (.ref cda) qual = true ∧
        ∀ a v, bindArgs (PySem.W.ksFn name qual (selfArgs [⟨"self", none, pa⟩, ⟨x, none, pb⟩]) [supSt [.Name x px] p0 p1 p2 p3 p4 p5, fldSt x (Str.ofString f) p6 p7 p8 p9] sc dV kV doc pm an (.ref cda) ct cc) ⟨[Value.ref a, v], []⟩ = pure [(("self" : Str), Value.ref a), (x, v)])
structure XOk (G : Pg) (Z : Gs) (n : Nat) (X : Cx) (Wx : WX) (A : At) : Prop where
  hK : G.K = X.K
  hkl : G.kl = Z.kl
  hN : X.N = A.N
  nd : A.N.Nodup
  sc : X.env.scope = A.sc
  kind : A.sc.kind = .function
  calm : A.calm = true → X.calm = true ∧ Room (n + 1) X.A ∧ PassesOwn (model X.prog X.w) X.A X.env X.xe ∧ X.A.guards = some []
  hu : X.A.units + 200 < cLine
  top : A.top = true → X.stack = X.env :: X.outer ∧ X.env.frame = some X.env.locals
  takes : Takes X Wx
  xc : XcOk G Z X.K X.mg
  er : ∀ c fo sup, Z.xc.lookup c = some (fo, sup) → c ∈ Z.rs → ErrOk G X.prog X.K X.mg c fo
  fnc : ∀ x, A.fs.names.lookup x = some .cell → X.fn x = true
  blt : ∀ x ∈ bnames, X.mg x = none
  gl : ∀ p ∈ Z.gl, ∃ u v, X.mg (Str.ofString p.1) = some u ∧ RelV v u ∧ ∀ T, IsV G.K T v p.2
  fn : ∀ f F, Z.tb.lookup f = some F → FnAt G Z n X f F
  /-- the error that the suite of an except clause holds -/
  sui : (∀ T i v c ws, ¬ G.xr T i v c ws) ∨ (A.calm = false ∧ ∃ (Y : Cx) (a : Addr) (o : Obj) (pn : List (Addr × Obj)) (cls : Value) (d : Option Addr), X = Y.suite a ((a, o) :: pn) ∧ Zc cls d o ∧ (∃ vs, o.data = .fields vs) ∧ ∀ T i v c ws, G.xr T i v c ws → v = .ref a ∧ IsX G T cls d c ws)
section
variable {G : Pg} {Z : Gs} {n : Nat} {X : Cx} {Wx : WX} {A : At}
theorem XOk.vis (h : XOk G Z n X Wx A) {x : Str} (e : vis A x = true) : Vis X.env.scope x := by
  rw [h.sc]
  unfold Sg.vis at e
  split at e
  · exact .inl (by assumption)
  · exact .inr (.inl (by assumption))
  · exact .inr (.inr (by assumption))
  · cases e
theorem XOk.glo (h : XOk G Z n X Wx A) {x : Str} (e : glo A x = true) : Gl X x := by
  show X.env.scope.names.lookup x = _
  rw [h.sc]
  unfold Sg.glo at e
  split at e
  · assumption
  · cases e
theorem XOk.lcl (h : XOk G Z n X Wx A) {x : Str} (e : lcl A x = true) : X.env.scope.names.lookup x = some .local := by
  rw [h.sc]
  unfold Sg.lcl at e
  split at e
  · assumption
  · cases e
theorem XOk.sto (h : XOk G Z n X Wx A) {x : Str} (e : sto A x = true) : Loc X.env.scope x ∧ (X.fn x = true ∨ X.env.scope.names.lookup x = some .local) := by
  rw [h.sc]
  unfold Sg.sto at e
  split at e
  · rename_i q
    exact ⟨.inl q, .inr q⟩
  · rename_i q
    split at e
    · rename_i q2
      exact ⟨.inr q, .inl (h.fnc x q2)⟩
    · cases e
  · cases e
theorem XOk.slot (h : XOk G Z n X Wx A) {i : Nat} {x : Str} (e : slot A i x = true) : X.N[i]? = some x := by
  rw [h.hN]
  exact of_decide_eq_true e
theorem plain_deb {x : Str} (e : plainName x = true) : (x == ("__debug__" : Str)) = false ∧ (x == ("__classdict__" : Str)) = false ∧ x ≠ "__name__" := by
  unfold plainName at e
  simp only [Bool.and_eq_true, Bool.not_eq_true', beq_eq_false_iff_ne] at e
  exact ⟨by simpa using e.1.1, by simpa using e.1.2, e.2⟩
theorem starEach_cons {e : Expr} {es : List Expr} {env : Env} (h : notStar e = true) : starEach (e :: es) env = (false, eval e env) :: starEach es env := by
  cases e <;> first | rfl | cases h
theorem back_any {pos : Pos} {env : Env} : ∀ {es : List Expr}, stars es = true → (backTo pos (starEach es env)).any (·.1) = false
  | [], _ => rfl
  | e :: es, h => by
    have q : notStar e = true ∧ stars es = true := by simpa [stars] using h
    rw [starEach_cons q.1]
    show (false || (backTo pos (starEach es env)).any (·.1)) = false
    rw [back_any q.2]
    rfl
theorem back_all {pos : Pos} {env : Env} : ∀ {es : List Expr}, stars es = true → (backTo pos (starEach es env)).all (fun x => !x.1) = true
  | [], _ => rfl
  | e :: es, h => by
    have q : notStar e = true ∧ stars es = true := by simpa [stars] using h
    rw [starEach_cons q.1]
    show (true && (backTo pos (starEach es env)).all (fun x => !x.1)) = true
    rw [back_all q.2]
    rfl
theorem plainIx {e : Expr} (h : notSlice e = true) : PlainIx e := by
  intro o i
  cases e <;> first | rfl | cases h
theorem augSt {e : Expr} (h : notSlice e = true) : ∀ ov iv new, augStore e ov iv new = (do holding [new, ov, iv] (setItem ov iv new); release [new, ov, iv] []; pure .next) := by
  intro ov iv new
  cases e <;> first | rfl | cases h
theorem asgSub {o e : Expr} {env : Env} {pos : Pos} (h : notSlice e = true) : ∀ v, assign (.Subscript o e pos) env v = (do
      let ov ← holding [v] (eval o env)
      let iv ← holding [v, ov] (eval e env)
      standAt pos
      holding [v, ov, iv] (setItem ov iv v)
      release [v, ov, iv] []) := by
  intro v
  cases e <;> first | rfl | cases h
theorem plainAt {e : Expr} {env : Env} {m : Str} (h : notCall e = true) : attributeBase e m env (eval e env) = eval e env := by
  cases e <;> first | rfl | cases h
theorem plainTs {e : Expr} {env : Env} (h : plainT e = true) : ∀ whole, isTrue e env whole = (do let v ← whole; standAt e.pos; holding [v] (truthy v)) := by
  intro w
  cases e with
  | UnaryOp op _ _ => cases op <;> first | rfl | cases h
  | BoolOp => cases h
  | IfExp => cases h
  | Compare => cases h
  | _ => rfl
theorem noMarks {e : Expr} {o : CmpOp} (h : notSet e = true) : behindInMarks o e = false := by
  cases e <;> first | rfl | cases h
theorem noFold {e : Expr} {env : Env} (h : notSet e = true) : ∀ x, foldedSetIterable e env x = pure x := by
  intro x
  cases e <;> first | rfl | cases h
theorem noSwap {e : Expr} {t : Option Expr} {l : Nat} {env : Env} (h : notComp e = true) : swapsWith e t l env = pure false := by
  cases e <;> first | rfl | cases h
theorem bnames_of {x : Str} (hb : x ∈ bnames) (h : XOk G Z n X Wx A) : X.mg x = none := h.blt x hb
/-- the operators -/
theorem op2_ok (h : XOk G Z n X Wx A) {op : Op2} {o : Operator} {fz : Bool} (e : opIs op o = true) : OpR X (binaryOp o) (R2of G.K (bin2 op fz)) := by
  rw [h.hK]
  cases op <;> cases o <;> first | cases e; done | skip
  · exact op_addW
  · exact op_subW
  · exact op_mulW'
  · exact op_fdivW'
  · exact op_modW
  · exact op_powW
theorem cop_ok (h : XOk G Z n X Wx A) {op : Cop} {o : CmpOp} (e : copIs op o = true) : OpR X (compareOp o) (R2of G.K fun a b M => R.of ((cmpV op a b M).map .bl) M) := by
  rw [h.hK]
  cases op <;> cases o <;> first | cases e; done | skip
  · exact op_eqW h.hu
  · exact op_neW h.hu
  · exact op_ordW op_lt
  · exact op_ordW op_le
  · exact op_ordW op_gt
  · exact op_ordW op_ge
  · exact op_inW h.hu
  · exact op_ninW h.hu

/-! ### the built-ins -/
theorem biB_ok (h : XOk G Z n X Wx A) {b : BI} {nm : String} {cm : Bool} (e : biB b = some (nm, cm)) (hc : (!cm || A.calm) = true) :
    CallR X (.builtin nm) (RAof X.K (biV b)) ∧ bootBuiltins (Str.ofString nm) = some (.builtin nm) ∧ Str.ofString nm ∈ bnames ∧ Str.ofString nm ≠ "__name__" ∧ (Str.ofString nm == ("__debug__" : Str)) = false := by
  cases b <;> simp only [biB, Option.some.injEq, Prod.mk.injEq, reduceCtorEq] at e <;> obtain ⟨rfl, rfl⟩ := e <;> try (have hm := h.calm (by simpa using hc))
  · exact ⟨ca_len, by decide +kernel, by decide +kernel, by decide +kernel, by decide +kernel⟩
  · exact ⟨ca_abs, by decide +kernel, by decide +kernel, by decide +kernel, by decide +kernel⟩
  · exact ⟨ca_repr hm.2.2.2 h.hu, by decide +kernel, by decide +kernel, by decide +kernel, by decide +kernel⟩
  · exact ⟨ca_sorted h.hu, by decide +kernel, by decide +kernel, by decide +kernel, by decide +kernel⟩
  · exact ⟨ca_sum hm.1, by decide +kernel, by decide +kernel, by decide +kernel, by decide +kernel⟩
  · exact ⟨ca_max1 hm.1, by decide +kernel, by decide +kernel, by decide +kernel, by decide +kernel⟩
  · exact ⟨ca_max2 hm.1, by decide +kernel, by decide +kernel, by decide +kernel, by decide +kernel⟩
  · exact ⟨ca_min1 hm.1, by decide +kernel, by decide +kernel, by decide +kernel, by decide +kernel⟩
  · exact ⟨ca_min2 hm.1, by decide +kernel, by decide +kernel, by decide +kernel, by decide +kernel⟩
  · exact ⟨ca_all hm.1, by decide +kernel, by decide +kernel, by decide +kernel, by decide +kernel⟩
theorem biT_ok {b : BI} {nm : String} (e : biT b = some nm) :
    CallR X (.type nm) (RAof X.K (biV b)) ∧ bootBuiltins (Str.ofString nm) = some (.type nm) ∧ Str.ofString nm ∈ bnames ∧ Str.ofString nm ≠ "__name__" ∧ (Str.ofString nm == ("__debug__" : Str)) = false := by
  cases b <;> simp only [biT, Option.some.injEq, reduceCtorEq] at e <;> subst e
  · exact ⟨ca_int, by decide +kernel, by decide +kernel, by decide +kernel, by decide +kernel⟩
  · exact ⟨ca_tuple, by decide +kernel, by decide +kernel, by decide +kernel, by decide +kernel⟩
  · exact ⟨ca_list, by decide +kernel, by decide +kernel, by decide +kernel, by decide +kernel⟩
theorem ty_ok (t : Ty) : bootBuiltins (Str.ofString (tyName t)) = some (.type (tyName t)) ∧ Str.ofString (tyName t) ∈ bnames ∧ Str.ofString (tyName t) ≠ "__name__" ∧ (Str.ofString (tyName t) == ("__debug__" : Str)) = false := by
  cases t <;> exact ⟨by decide +kernel, by decide +kernel, by decide +kernel, by decide +kernel⟩
theorem bin_is (h : XOk G Z n X Wx A) {x y : Str} (e : bin_ A x y = true) : x = y ∧ Gl X x := by
  unfold bin_ at e
  simp only [Bool.and_eq_true, decide_eq_true_eq] at e
  exact ⟨e.1, h.glo e.2⟩
/-- the methods -/
def mtId : BM → String
  | .append => "list.append" | .pop => "list.pop" | .popAt => "list.pop" | .insert => "list.insert" | .extend => "list.extend" | .remove => "list.remove" | .index => "list.index"
theorem mt_ok {m : BM} (hm : m ≠ .index) : Slot "list" (Str.ofString (mtN m)) (mtId m) ∧ typeOf (.builtin (mtId m)) = pure (.type "method_descriptor") ∧ MtR X (mtId m) (fun x xs H Q => RMof X.K m x xs H Q) := by
  cases m
  · exact ⟨PySem.F.slot_list_append, PySem.F.type_list_append, m_append⟩
  · exact ⟨PySem.F.slot_list_pop, PySem.F.type_list_pop, m_pop⟩
  · exact ⟨PySem.F.slot_list_pop, PySem.F.type_list_pop, m_popAt⟩
  · exact ⟨PySem.F.slot_list_insert, PySem.F.type_list_insert, m_insert⟩
  · exact ⟨PySem.F.slot_list_extend, PySem.F.type_list_extend, m_extend⟩
  · exact ⟨PySem.F.slot_list_remove, PySem.F.type_list_remove, m_remove⟩
  · exact absurd rfl hm
/-! ### targets -/
theorem tg_names (h : XOk G Z n X Wx A) : ∀ {l : List Nat} {es : List Expr}, chkTg.go A l es = true → PGs X es (TGn G l) ∧ (assignEach es X.env).length = l.length ∧ (assignEach es X.env).findIdx? (·.1) = none
  | [], [], _ => ⟨g_nil, rfl, rfl⟩
  | i :: l, [], e => by cases e
  | [], e :: es, h => by cases e <;> cases h
  | i :: l, e :: es, q => by
    cases e with
    | Name x p =>
      have q' : (slot A i x = true ∧ sto A x = true) ∧ chkTg.go A l es = true := by simpa [chkTg.go] using q
      obtain ⟨⟨q1, q2⟩, q3⟩ := q'
      obtain ⟨r1, r2, r3⟩ := tg_names h q3
      obtain ⟨s1, s2⟩ := h.sto q2
      refine ⟨g_cons (g_name (h.hN ▸ h.nd) (h.slot q1) s1 s2) r1 rfl, ?_, ?_⟩
      · show (assignEach es X.env).length + 1 = l.length + 1
        rw [r2]
      · show ((false, assign (.Name x p) X.env) :: assignEach es X.env).findIdx? (·.1) = none
        rw [List.findIdx?_cons, r3]
        rfl
    | _ => cases q
theorem tg_ok (h : XOk G Z n X Wx A) {t : Tg} {e : Expr} (q : chkTg A t e = true) : PG X e (TGx G t) := by
  cases t with
  | nm i =>
    cases e with
    | Name x p =>
      have q' : slot A i x = true ∧ sto A x = true := by simpa [chkTg] using q
      obtain ⟨s1, s2⟩ := h.sto q'.2
      exact g_name (h.hN ▸ h.nd) (h.slot q'.1) s1 s2
    | _ => cases q
  | tp l =>
    cases e with
    | Tuple es k p =>
      have q' : A.calm = true ∧ chkTg.go A l es = true := by simpa [chkTg] using q
      obtain ⟨r1, r2, r3⟩ := tg_names h q'.2
      exact g_tup h.hK (h.calm q'.1).1 r1 r2 r3
    | _ => cases q
/-! ### a block within -/
theorem rl_is {scope : Scope} {env : Env} : relabel scope env = rl scope env.scope := rfl
theorem XOk.blk (h : XOk G Z n X Wx A) (hcl : A.calm = true) {scope : Scope} (hk : scope.kind = .function) (s : Shared) (H : Hp) (C : Addr) (cl : List (Str × Addr)) (fp : List Addr) :
    XOk G Z n (X.blk s H scope (compEnvC scope cl C X.env) fp) noWX (blkAt A scope) where
  hK := h.hK
  hkl := h.hkl
  hN := h.hN
  nd := h.nd
  sc := by
    show relabel scope X.env = rl scope A.sc
    rw [← h.sc]
    rfl
  kind := hk
  calm := fun hc => let ⟨a, b, _, d⟩ := h.calm hc; ⟨a, b, PassesOwn.never, d⟩
  hu := h.hu
  top := fun hc => by cases hc
  takes := fun _ _ ⟨_, _, _, _, _, _, _, _, _, _, _, _, _, _, _, _, w⟩ => w.elim
  fnc := fun x hx => by
    show (scope.names.lookup x == some .cell) = true
    rw [show scope.names.lookup x = some .cell from hx]
    rfl
  blt := h.blt
  xc := h.xc
  er := h.er
  gl := h.gl
  fn := fun f F hf => ⟨(h.fn f F hf).ex⟩
  sui := .inl (by
    rcases h.sui with z | ⟨z, _⟩
    · exact z
    · rw [hcl] at z; cases z)
theorem esLen_chk : ∀ {cs : Es} {es : List Expr}, chkEs Z cs A es = true → stars es = true ∧ esLen cs = es.length
  | .nil, [], _ => ⟨rfl, rfl⟩
  | .nil, e :: es, h => by simp [chkEs] at h
  | .cons c cs, [], h => by simp [chkEs] at h
  | .cons c cs, e :: es, h => by
    have q : (notStar e = true ∧ chkE Z c A e = true) ∧ chkEs Z cs A es = true := by simpa [chkEs] using h
    obtain ⟨r1, r2⟩ := esLen_chk q.2
    exact ⟨by simp [stars, q.1.1]; simpa [stars] using r1, by simp [esLen, r2]⟩
theorem ks_ok : ∀ {ks : Es} {keys : List (Option Expr)}, chkKs ks keys = true → KsOk X keys ks ∧ keys.all (·.isSome) = true
  | .nil, [], _ => ⟨.nil, rfl⟩
  | .nil, k :: keys, h => by cases h
  | .cons c ks, [], h => by cases c <;> first | cases h | (rename_i w; cases w <;> cases h)
  | .cons c ks, k :: keys, h => by
    cases c with
    | cst w =>
      cases w with
      | str s =>
        cases k with
        | none => cases h
        | some e =>
          cases e with
          | Constant c _ _ =>
            cases c with
            | str t =>
              have q : s = t ∧ chkKs ks keys = true := by simpa [chkKs] using h
              obtain ⟨rfl, q⟩ := q
              obtain ⟨r1, r2⟩ := ks_ok q
              exact ⟨.cons (kk := .inr s) rfl pe_str r1, by simpa using r2⟩
            | _ => cases h
          | _ => cases h
      | int s =>
        cases k with
        | none => cases h
        | some e =>
          cases e with
          | Constant c _ _ =>
            cases c with
            | int t =>
              have q : s = t ∧ chkKs ks keys = true := by simpa [chkKs] using h
              obtain ⟨rfl, q⟩ := q
              obtain ⟨r1, r2⟩ := ks_ok q
              exact ⟨.cons (kk := .inl s) rfl pe_int r1, by simpa using r2⟩
            | _ => cases h
          | _ => cases h
      | _ => cases h
    | _ => cases h
theorem tail_pe {op : BoolOp} {r : Expr} {rest : List Expr} {p : Pos} {t : TE} (h : PE X (tailE op (r :: rest) p) t) : PE X (.BoolOp op (r :: rest) p) t := by
  cases rest with
  | nil => exact pe_one h
  | cons a b => exact h
theorem tail_pw {op : BoolOp} {r : Expr} {rest : List Expr} {p : Pos} {c : E} {cf : CF} (hop : op = .And ∨ op = .Or) (h : PT X (tailE op (r :: rest) p) (TTx G Wx cf c)) : PW X (.BoolOp op (r :: rest) p) (TTx G Wx cf c) := by
  cases rest with
  | nil => exact y_one (a := r) hop h
  | cons a b => exact ⟨fun wh pins s σ H Q I q => h.run pins s σ H Q I q⟩
end
end Sg
end

section
set_option Elab.async false
set_option linter.all false
set_option maxRecDepth 100000
set_option maxHeartbeats 4000000
/-! Sg, part 14: expressions. -/
namespace Sg
open PySem PySem.Spec PyProof.Rows L2
variable {G : Pg} {Z : Gs} {n : Nat}
theorem isNoneC_is {e : Expr} (h : isNoneC e = true) : ∃ j p, e = .Constant .none j p := by
  cases e with
  | Constant c j p => cases c <;> first | exact ⟨_, _, rfl⟩ | cases h
  | _ => cases h
theorem isNoneE_is {e : E} (h : isNoneE e = true) : e = .cst .non := by
  cases e with
  | cst w => cases w <;> first | rfl | cases h
  | _ => cases h
theorem copIs_not {op : Cop} {o : CmpOp} {X : Prop} (h : copIs op o = true) : True := trivial
/-! ### the error that a suite holds -/
section
variable {A : At} {X : Cx} {Wx : WX} {cf : CF}
theorem isX_at (h : XOk G Z n X Wx A) {T : Ws} {cls : Value} {d : Option Addr} {c : String} {ws : List Vl} (ix : IsX G T cls d c ws) : ∃ C p, G.cA c = some C ∧ cls = .ref C ∧ Z.xc.lookup c = some p := by
  obtain ⟨C, h1, h2, h3⟩ := ix
  rw [h.hkl] at h3
  cases q : Z.xc.lookup c with
  | some p => exact ⟨C, p, h1, h2, rfl⟩
  | none =>
    have e : Z.kl.fld c = none := by show (Z.xc.lookup c).map (·.1) = none; rw [q]; rfl
    rw [e] at h3
    exact h3.elim
/-- what a slot with an error says -/
theorem xc_at (h : XOk G Z n X Wx A) {T : Ws} {s : L2.St} {σ : Sl} {i : Nat} {c : String} {ws : List Vl} (rs : RelS G T s σ) (e : (σ[i]?).bind id = some (.xc c ws)) :
    ∃ (Y : Cx) (a : Addr) (o : Obj) (pn : List (Addr × Obj)) (cls : Value) (d : Option Addr), X = Y.suite a ((a, o) :: pn) ∧ Zc cls d o ∧ (∃ vs, o.data = .fields vs) ∧ s[i]? = some (some (.ref a)) ∧ IsX G T cls d c ws := by
  obtain ⟨z, h1, h2⟩ := Option.bind_eq_some_iff.mp e
  have h3 : σ[i]? = some (some (.xc c ws)) := by rw [h1, show z = some (.xc c ws) from h2]
  obtain ⟨v, g1, g2⟩ := rs.val i _ h3
  rcases g2 with g2 | ⟨c', ws', ez, g2⟩
  · cases g2
  · cases ez
    rcases h.sui with z | ⟨_, Y, a, o, pn, cls, d, e1, e2, e3, e4⟩
    · exact absurd g2 (z _ _ _ _ _)
    · obtain ⟨rfl, ix⟩ := e4 _ _ _ _ _ g2
      exact ⟨Y, a, o, pn, cls, d, e1, e2, e3, g1, ix⟩
theorem xfld_ok (h : XOk G Z n X Wx A) {i : Nat} {x : Str} {f : String} {p pos : Pos} (q1 : slot A i x = true) (q2 : vis A x = true) (q3 : plainName x = true) :
    PE X (.Attribute (.Name x p) (Str.ofString f) pos) (TEx G Wx cf (.xfld i f)) := by
  refine ⟨fun pins st s H Q I hh => ?_⟩
  obtain ⟨T, σ, M, rfl, rm, rs, hh⟩ := hh
  simp only [evE] at hh
  split at hh
  · rename_i c ws e
    obtain ⟨Y, a, o, pn, cls, d, rfl, hz, hf, hs, ix⟩ := xc_at h rs e
    obtain ⟨C, p', h1, rfl, h3⟩ := isX_at h ix
    obtain ⟨C', k1, k2, k3⟩ := ix
    rw [h1] at k1
    cases k1
    unfold lookC at hh
    rw [h.hkl] at hh k3
    have hfl : Z.kl.fld c = some p'.1 := by show (Z.xc.lookup c).map (·.1) = some p'.1; rw [h3]; rfl
    simp only [hfl, Option.bind_some, id] at hh k3
    obtain ⟨fl, sup⟩ := p'
    cases fl with
    | none => exact hh.elim
    | some g =>
      obtain ⟨dd, v, w, rfl, rfl, k4, k5, k6⟩ := k3
      dsimp only at hh
      split at hh
      · rename_i eg
        subst eg
        obtain ⟨xf, no⟩ := h.xc.fld c g sup C h3 h1
        have hv : PE (Y.suite a ((a, o) :: pn)) (.Name x p) (tVar i) := pe_var (h.slot q1) (h.vis q2) (plain_deb q3).1 (plain_deb q3).2.1
        refine (pe_xf xf no hz hf hv (plainAt rfl)).run pins st s T.H Q I ⟨_, hs, rfl, rfl, dd, _, v, rfl, k4, ?_, hh.here rm k6⟩
        simp [List.lookup]
      · exact hh.elim
  · exact hh.elim
theorem isE_any {Y : Cx} {a C : Addr} {o : Obj} {d : Option Addr} {pn : List (Addr × Obj)} {T : Ws} {G' : Pg} (E : ExcC Y.K C) (hz : Zc (.ref C) d o) (hf : ∃ vs, o.data = .fields vs) (hd : d = none ∨ ∃ dd fs, d = some dd ∧ T.H dd = some (.xd fs)) {D : Addr} {b : Bool} (ek : PySem.W.kitOne Y.K (.ref C) (.ref D) = some b)
    {pins : List (Addr × Obj)} {st : Shared} {s : L2.St} {us : List Value} {Q : VK} (I : Inv (Y.suite a ((a, o) :: pn)) pins s T.H st) (r : L2.Vals [V.ref a, V.ref D] us) (q : Q (.bl b) T.H) :
    wpAny (model Y.prog Y.w) (Y.suite a ((a, o) :: pn)).A (call (.builtin "isinstance") us) (EP (Y.suite a ((a, o) :: pn)) pins s Q) (fun _ _ => False) st := by
  cases r with
  | cons rx rr =>
    cases rr with
    | cons rt rr =>
      cases rr
      cases rx
      cases rt
      obtain ⟨hget, _⟩ := I.pin (a, o) (List.mem_append.mpr (.inl List.mem_cons_self))
      obtain ⟨vs, hv⟩ := hf
      have hcl : (PySem.W.clsIn Y.K C).isSome = true := by
        obtain ⟨cd, hc, _⟩ := PySem.W.any_some E.hd
        rw [hc]; rfl
      have go : ∀ od : Option Obj, PySem.W.InstAt st.heap a o C od → wpAny (model Y.prog Y.w) (Y.suite a ((a, o) :: pn)).A (call (.builtin "isinstance") [.ref a, .ref D]) (EP (Y.suite a ((a, o) :: pn)) pins s Q) (fun _ _ => False) st := fun od J =>
        PySem.W.kia_one (PySem.W.kitx_exc hcl E.hg E.hk E.hs E.ha E.hn E.ht E.hm) I.kIn J ek (fun z => nomatch z) fun tk => ⟨.bl b, T.H, I.kept (t' := tk) fun _ _ z => z, rfl, q⟩
      have nc : PySem.W.notCls o = true := by unfold PySem.W.notCls; rw [hv] <;> rfl
      rcases hd with rfl | ⟨dd, fs, rfl, hdd⟩
      · exact go none ⟨hget, hz.1, nc, by rw [hz.2]; trivial⟩
      · obtain ⟨mA, hns, _⟩ := (show ObjOk Y.prog Y.w T.H st.heap dd (.xd fs) from I.hok dd _ hdd)
        obtain ⟨od, ho, _⟩ := lookIn_ns hns
        exact go (some od) ⟨hget, hz.1, nc, by rw [hz.2]; exact ho⟩
theorem xisi_ok (h : XOk G Z n X Wx A) {i : Nat} {x : Str} {d : String} {p1 p2 p3 pos : Pos} (hg : Gl X "isinstance") (q1 : slot A i x = true) (q2 : vis A x = true) (q3 : plainName x = true) (q5 : glo A (Str.ofString d) = true) (q6 : plainName (Str.ofString d) = true) (q7 : (Z.xc.lookup d).isSome = true) :
    PE X (.Call (.Name "isinstance" p1) [.Name x p2, .Name (Str.ofString d) p3] [] pos) (TEx G Wx cf (.xisi i d)) := by
  refine ⟨fun pins st s H Q I hh => ?_⟩
  obtain ⟨T, σ, M, rfl, rm, rs, hh⟩ := hh
  simp only [evE] at hh
  split at hh
  · rename_i c ws e
    obtain ⟨Y, a, o, pn, cls, dx, rfl, hz, hf, hs, ix⟩ := xc_at h rs e
    obtain ⟨C, p', h1, rfl, h3⟩ := isX_at h ix
    obtain ⟨pd, h4⟩ := Option.isSome_iff_exists.mp q7
    obtain ⟨D, h5, h6⟩ := h.xc.at_ d pd h4
    obtain ⟨_, ek⟩ := h.xc.sub c d p' pd C D h3 h4 h1 h5
    have hd : dx = none ∨ ∃ dd fs, dx = some dd ∧ T.H dd = some (.xd fs) := by
      obtain ⟨o1, d1⟩ := hz
      obtain ⟨C', k1, k2, k3⟩ := ix
      split at k3
      · exact k3.elim
      · exact .inl k3.2
      · obtain ⟨dd, v, w, rfl, rfl, k4, k5, k6⟩ := k3
        exact .inr ⟨dd, _, rfl, k4⟩
    have hv : PE (Y.suite a ((a, o) :: pn)) (.Name x p2) (tVar i) := pe_var (h.slot q1) (h.vis q2) (plain_deb q3).1 (plain_deb q3).2.1
    have ht : PE (Y.suite a ((a, o) :: pn)) (.Name (Str.ofString d) p3) (tC (.ref D)) := pe_glob (h.glo q5) h6 rfl (plain_deb q6).1
    have hr : CallR (Y.suite a ((a, o) :: pn)) (.builtin "isinstance") (fun xs H Q => xs = [.ref a, .ref D] ∧ H = T.H ∧ Q (.bl (G.kl.sub c d)) H) := by
      intro pins st s H xs us Q I r hx
      obtain ⟨rfl, rfl, q⟩ := hx
      exact isE_any (G' := G) (h.xc.isE c p' C h3 h1) hz hf hd (h.hkl ▸ ek) I r q
    refine (pe_callB hr hg (h.blt _ (by decide +kernel)) PyProof.Rows.boot_isinstance (pa_cons hv (pa_cons ht pa_nil rfl) rfl) (by decide) (by decide) rfl rfl).run pins st s T.H Q I ⟨_, hs, rfl, rfl, ?_⟩
    exact hh.here rm (.bl _)
  · exact hh.elim
end
theorem kw_facts {env : Env} {pos : Pos} : ∀ {names : List String} {kws : List Keyword}, kwNames names kws = true → (backToKw pos (keywordEach kws env)).all (·.1.isSome) = true ∧ (backToKw pos (keywordEach kws env)).any (·.1.isNone) = false ∧ (backToKw pos (keywordEach kws env)).filterMap (·.1) = names.map Str.ofString
  | [], [], _ => ⟨rfl, rfl, rfl⟩
  | [], k :: ks, h => by cases h
  | a :: as, [], h => by cases h
  | a :: as, ⟨none, e, p⟩ :: ks, h => by cases h
  | a :: as, ⟨some m, e, p⟩ :: ks, h => by
    have q : m = Str.ofString a ∧ kwNames as ks = true := by simpa [kwNames] using h
    obtain ⟨rfl, q⟩ := q
    obtain ⟨h1, h2, h3⟩ := kw_facts (env := env) (pos := pos) q
    refine ⟨?_, ?_, ?_⟩
    · show (true && (backToKw pos (keywordEach ks env)).all (·.1.isSome)) = true
      rw [h1]; rfl
    · show (false || (backToKw pos (keywordEach ks env)).any (·.1.isNone)) = false
      rw [h2]; rfl
    · show Str.ofString a :: (backToKw pos (keywordEach ks env)).filterMap (·.1) = Str.ofString a :: as.map Str.ofString
      rw [h3]
theorem kw_len {A : At} : ∀ {names : List String} {kws : List Keyword} {cs : Es}, chkK Z cs A kws = true → kwNames names kws = true → esLen cs = names.length
  | [], [], .nil, _, _ => rfl
  | [], [], .cons c cs, h, _ => by simp [chkK] at h
  | [], k :: ks, _, _, h => by cases h
  | a :: as, [], _, _, h => by cases h
  | a :: as, ⟨none, e, p⟩ :: ks, _, _, h => by cases h
  | a :: as, ⟨some m, e, p⟩ :: ks, .nil, h, _ => by simp [chkK] at h
  | a :: as, ⟨some m, e, p⟩ :: ks, .cons c cs, h, h2 => by
    have q : m = Str.ofString a ∧ kwNames as ks = true := by simpa [kwNames] using h2
    have r : chkE Z c A e = true ∧ chkK Z cs A ks = true := by simpa [chkK] using h
    simp only [esLen, List.length_cons]
    rw [kw_len r.2 q.2]
mutual
theorem chkE_ok : ∀ (c : E) {A : At} {e : Expr} {X : Cx} {Wx : WX}, XOk G Z n X Wx A → chkE Z c A e = true → PE X e (TEx G Wx (evCall G.kl Z.T n) c)
  | .var i, A, e, X, Wx, h, q => by
    simp only [chkE] at q
    split at q
    · simp only [Bool.and_eq_true] at q
      exact x_var (h.slot q.1.1) (h.vis q.1.2) (plain_deb q.2).1 (plain_deb q.2).2.1
    · cases q
  | .cst w, A, e, X, Wx, h, q => by
    simp only [chkE] at q
    split at q
    · split at q
      · obtain rfl := of_decide_eq_true q; exact x_int
      · obtain rfl := of_decide_eq_true q; exact x_bl
      · obtain rfl := of_decide_eq_true q; exact x_str
      · exact x_non
      · cases q
    · cases q
  | .glb nm w, A, e, X, Wx, h, q => by
    simp only [chkE] at q
    split at q
    · simp only [Bool.and_eq_true, decide_eq_true_eq, List.any_eq_true] at q
      obtain ⟨⟨⟨rfl, q1⟩, q2⟩, p, hp, rfl, rfl⟩ := q
      obtain ⟨u, v, g1, g2, g3⟩ := h.gl p hp
      exact x_glb (h.glo q1) g1 g2 g3 (plain_deb q2).1
    · cases q
  | .tup cs, A, e, X, Wx, h, q => by
    simp only [chkE] at q
    split at q
    · simp only [Bool.and_eq_true, decide_eq_true_eq] at q
      exact x_tup (chkEs_ok cs h q.1) q.2
    · cases q
  | .lst fz cs, A, e, X, Wx, h, q => by
    simp only [chkE] at q
    split at q
    · simp only [Bool.and_eq_true, decide_eq_true_eq] at q
      exact x_lst (chkEs_ok cs h q.1) q.2
    · cases q
  | .dct ks vs, A, e, X, Wx, h, q => by
    simp only [chkE] at q
    split at q
    · split at q
      · split at q
        · exact x_dct0
        · cases q
      · simp only [Bool.and_eq_true, decide_eq_true_eq, Bool.not_eq_true', List.isEmpty_eq_false_iff] at q
        obtain ⟨⟨⟨⟨q1, q2⟩, q3⟩, q4⟩, q5⟩ := q
        obtain ⟨r1, r2⟩ := ks_ok (X := X) q1
        exact x_dct r1 (chkVs_ok vs h q2) r2 q3 q4 q5
    · cases q
  | .dic, A, e, X, Wx, h, q => by
    simp only [chkE] at q
    split at q
    · exact x_dic
    · cases q
  | .bin op fz a b, A, e, X, Wx, h, q => by
    simp only [chkE] at q
    split at q
    · simp only [Bool.and_eq_true] at q
      exact x_bin (op2_ok h q.1.1) (chkE_ok a h q.1.2) (chkE_ok b h q.2)
    · cases q
  | .neg a, A, e, X, Wx, h, q => by
    simp only [chkE] at q
    split at q
    · exact x_neg (chkE_ok a h q)
    · cases q
  | .not a, A, e, X, Wx, h, q => by
    simp only [chkE] at q
    split at q
    · exact x_notV (chkE_ok a h q) h.hK
    · cases q
  | .and a b, A, e, X, Wx, h, q => by
    simp only [chkE] at q
    split at q
    · simp only [Bool.and_eq_true] at q
      exact x_and h.hK (chkE_ok a h q.1) (tail_pe (chkE_ok b h q.2))
    · cases q
  | .or a b, A, e, X, Wx, h, q => by
    simp only [chkE] at q
    split at q
    · simp only [Bool.and_eq_true] at q
      exact x_or h.hK (chkE_ok a h q.1) (tail_pe (chkE_ok b h q.2))
    · cases q
  | .cmp op a b, A, e, X, Wx, h, q => by
    simp only [chkE] at q
    split at q
    · split at q
      · simp only [Bool.and_eq_true] at q
        obtain ⟨j, p, rfl⟩ := isNoneC_is q.1.2
        obtain rfl := isNoneE_is q.2
        exact x_isn (chkE_ok a h q.1.1)
      · simp only [Bool.and_eq_true] at q
        obtain ⟨j, p, rfl⟩ := isNoneC_is q.1.2
        obtain rfl := isNoneE_is q.2
        exact x_nisn (chkE_ok a h q.1.1)
      · simp only [Bool.and_eq_true] at q
        exact x_cmp (cop_ok h q.1.1.1) (noMarks q.1.1.2) (chkE_ok a h q.1.2) (chkE_ok b h q.2)
    · cases q
  | .cmp2 op op' a b c, A, e, X, Wx, h, q => by
    simp only [chkE] at q
    split at q
    · simp only [Bool.and_eq_true] at q
      obtain ⟨⟨⟨⟨⟨q1, q2⟩, q3⟩, q4⟩, q5⟩, q6⟩ := q
      exact x_cmp2 (cop_ok h q1) (cop_ok h q2) (by show behindInMarks _ _ = false; exact noMarks q3) (chkE_ok a h q4) (chkE_ok b h q5) (chkE_ok c h q6)
    · cases q
  | .ite c a b, A, e, X, Wx, h, q => by
    simp only [chkE] at q
    split at q
    · simp only [Bool.and_eq_true] at q
      obtain ⟨⟨q1, q2⟩, q3⟩ := q
      refine x_ite ?_ (chkE_ok a h q2) (chkE_ok b h q3)
      split at q1
      · rename_i hp
        exact y_val (chkE_ok c h q1) h.hK (plainTs hp)
      · exact chkT_ok c h q1
    · cases q
  | .idx a i, A, e, X, Wx, h, q => by
    simp only [chkE] at q
    split at q
    · simp only [Bool.and_eq_true] at q
      exact x_idx h.hK h.hu (chkE_ok a h q.1.1) (chkE_ok i h q.1.2) (plainIx q.2)
    · cases q
  | .sl fz a lo hi, A, e, X, Wx, h, q => by
    simp only [chkE] at q
    split at q
    · simp only [Bool.and_eq_true] at q
      exact x_sl h.hK (chkE_ok a h q.1.1) (chkO_ok lo h q.1.2) (chkO_ok hi h q.2)
    · cases q
  | .rev fz a, A, e, X, Wx, h, q => by
    simp only [chkE] at q
    split at q
    · simp only [Bool.and_eq_true, decide_eq_true_eq] at q
      obtain ⟨q1, rfl⟩ := q
      exact x_revL h.hK (chkE_ok a h q1)
    · cases q
  | .comp fz el tg src cs own, A, e, X, Wx, h, q => by
    simp only [chkE] at q
    split at q
    · rename_i elt tgt iter ifs k scope p
      simp only [Bool.and_eq_true, decide_eq_true_eq, List.all_eq_true] at q
      obtain ⟨⟨⟨⟨⟨⟨⟨⟨⟨q0, rfl⟩, q2⟩, q3⟩, q4⟩, q5⟩, q6⟩, q7⟩, q8⟩, q9⟩ := q
      have e1 : (own.map fun i => (A.N.getD i "", i)).map (·.2) = own := by
        rw [List.map_map]
        exact List.map_id' own
      have ok := blkOk_by q5
      have r := x_comp (G := G) (pos := p) (cf := evCall G.kl Z.T n) (Wx := Wx) (fz := fz) (el := el) (cs := cs) (own := own.map fun i => (A.N.getD i "", i)) (h.calm q0).1 (h.hN ▸ h.nd) (by
          rw [e1]; intro i hi; have := q2 i hi; simpa using this) (chkS_ok src h q3 q4) (by rw [h.hN, h.sc]; exact ok)
        (fun s H C cl fp => tg_ok (h.blk q0 ok.kind s H C cl fp) q6) (fun s H C cl fp => chkC_ok cs (h.blk q0 ok.kind s H C cl fp) q7) (fun s H C cl fp => chkE_ok el (h.blk q0 ok.kind s H C cl fp) q8) (noFold q9)
      rw [e1] at r
      exact r
    · cases q
  | .call f cs, A, e, X, Wx, h, q => by
    simp only [chkE] at q
    split at q
    · rename_i x p es p2
      simp only [Bool.and_eq_true, decide_eq_true_eq] at q
      obtain ⟨⟨⟨⟨⟨q0, rfl⟩, q2⟩, q3⟩, q4⟩, q5⟩ := q
      obtain ⟨F, hF⟩ := Option.isSome_iff_exists.mp q4
      obtain ⟨a, fd, ps, g1, g2, g3, _, g4⟩ := (h.fn f F hF).ex
      obtain ⟨_, hr, _, hgd⟩ := h.calm q0
      obtain ⟨st, _⟩ := esLen_chk q5
      cases es with
      | nil =>
        cases cs with
        | nil => exact x_call0 h.hK hF g4 hr hgd (h.glo q2) g1 g2 g3 h.takes (plain_deb q3).1
        | cons c cs => simp [chkEs] at q5
      | cons e1 es =>
        have st' : notStar e1 = true ∧ stars es = true := by simpa [stars] using st
        exact x_call h.hK hF g4 hr hgd (h.glo q2) g1 g2 g3 h.takes (chkEs_ok cs h q5) (plain_deb q3).1 (starEach_cons st'.1) (back_any st'.2)
    · cases q
  | .bi b cs, A, e, X, Wx, h, q => by
    unfold chkE at q
    split at q
    · rename_i x p e1 es p2
      split at q
      · rename_i nm cm hb
        simp only [Bool.and_eq_true] at q
        obtain ⟨⟨q1, q2⟩, q3⟩ := q
        obtain ⟨rfl, hg⟩ := bin_is h q1
        obtain ⟨r1, r2, r3, r4, r5⟩ := biB_ok h hb q2
        obtain ⟨st, _⟩ := esLen_chk q3
        have st' : notStar e1 = true ∧ stars es = true := by simpa [stars] using st
        exact x_bi h.hK r1 hg (h.blt _ r3) r2 (chkEs_ok cs h q3) r4 r5 (starEach_cons st'.1) (back_any st'.2)
      · split at q
        · rename_i nm hb
          simp only [Bool.and_eq_true] at q
          obtain ⟨q1, q3⟩ := q
          obtain ⟨rfl, hg⟩ := bin_is h q1
          obtain ⟨r1, r2, r3, r4, r5⟩ := biT_ok (X := X) hb
          obtain ⟨st, _⟩ := esLen_chk q3
          have st' : notStar e1 = true ∧ stars es = true := by simpa [stars] using st
          exact x_biT h.hK r1 hg (h.blt _ r3) r2 (chkEs_ok cs h q3) r4 r5 (starEach_cons st'.1) (back_any st'.2)
        · split at q
          · rename_i t y py c _ _
            simp only [Bool.and_eq_true] at q
            obtain ⟨⟨⟨q1, q2⟩, q3⟩, q4⟩ := q
            obtain ⟨rfl, hg⟩ := bin_is h q1
            obtain ⟨rfl, hgt⟩ := bin_is h q2
            obtain ⟨r2, r3, r4, r5⟩ := ty_ok t
            exact x_isi h.hK hg (h.blt _ (by decide +kernel)) hgt (h.blt _ r3) r2 r4 r5 (chkE_ok c h q3) (starEach_cons q4)
          · cases q
    · cases q
  | .meth m o cs, A, e, X, Wx, h, q => by
    simp only [chkE] at q
    split at q
    · rename_i ob name ap es cp
      simp only [Bool.and_eq_true, decide_eq_true_eq] at q
      obtain ⟨⟨⟨⟨⟨⟨⟨rfl, q1⟩, q2⟩, q3⟩, q4⟩, q5⟩, q6⟩, q7⟩ := q
      obtain ⟨r1, r2, r3⟩ := mt_ok (X := X) q1
      obtain ⟨st, _⟩ := esLen_chk q3
      cases es with
      | nil =>
        cases cs with
        | nil => exact x_meth0 h.hK r1 r2 r3 (chkE_ok o h q2) (plainAt q4) q5
        | cons c cs => simp [chkEs] at q3
      | cons e1 es =>
        have st' : notStar e1 = true ∧ stars es = true := by simpa [stars] using st
        refine x_meth h.hK r1 r2 r3 (chkE_ok o h q2) (chkEs_ok cs h q3) (plainAt q4) ?_ q5 (starEach_cons st'.1) (back_any st'.2)
        rw [back_all st]
        have : (e1 :: es).length + ([] : List Keyword).length + (if ([] : List Keyword).isEmpty then 0 else 1) < 30 := by
          simp only [List.length_nil, List.isEmpty_nil, if_true]
          omega
        rw [decide_eq_true this]
        rfl
    · cases q
  | .callk f es ks kes, A, e, X, Wx, h, q => by
    unfold chkE at q
    split at q
    · rename_i x p kws p2
      simp only [Bool.and_eq_true, decide_eq_true_eq, List.any_eq_true] at q
      obtain ⟨⟨⟨⟨⟨⟨q0, rfl⟩, q2⟩, q3⟩, q4⟩, ⟨f', names, ks'⟩, hq, ⟨rfl, rfl⟩, q5⟩, q6⟩ := q
      obtain ⟨F, hF⟩ := Option.isSome_iff_exists.mp q4
      obtain ⟨a, fd, ps, g1, g2, g3, gk, g4⟩ := (h.fn _ F hF).ex
      obtain ⟨_, hr, _, hgd⟩ := h.calm q0
      obtain ⟨k1, k2, k3⟩ := kw_facts (env := X.env) (pos := p2) q5
      exact x_callk hF g4 hr hgd (h.glo q2) g1 g2 (gk _ _ hq) h.takes (chkK_ok kes h q6) (by rw [kw_len q6 q5, List.length_map]) (plain_deb q3).1 k1 k2 k3
    · cases q
  | .src k fz s, A, e, X, Wx, h, q => by
    unfold chkE at q
    split at q
    · simp only [Bool.and_eq_true] at q
      obtain ⟨⟨⟨q0, q1⟩, q2⟩, q3⟩ := q
      obtain ⟨e1, hg1⟩ := bin_is h q1
      obtain ⟨rfl, hg2⟩ := bin_is h q2
      have hb : X.mg _ = none := h.blt _ (show (if k = true then ("list" : Str) else "tuple") ∈ bnames by cases k <;> decide +kernel)
      split at q3
      · simp only [Bool.and_eq_true] at q3
        exact x_src1 (h.calm q0).1 e1 hg1 (e1 ▸ hb) hg2 (h.blt _ (by decide +kernel)) (chkE_ok _ h q3.1) (starEach_cons q3.2)
      · simp only [Bool.and_eq_true] at q3
        obtain ⟨⟨⟨q4, q5⟩, q6⟩, q7⟩ := q3
        exact x_src2 (h.calm q0).1 e1 hg1 (e1 ▸ hb) hg2 (h.blt _ (by decide +kernel)) (chkE_ok _ h q4) (chkE_ok _ h q5) (starEach_cons q6) (starEach_cons q7) (back_any (by simp [stars, q7]))
      · cases q3
    · cases q
  | .xfld i f, A, e, X, Wx, h, q => by
    simp only [chkE] at q
    split at q
    · simp only [Bool.and_eq_true, decide_eq_true_eq, Bool.not_eq_true'] at q
      obtain ⟨⟨⟨⟨q1, q2⟩, q3⟩, rfl⟩, _⟩ := q
      exact xfld_ok h q1 q2 q3
    · cases q
  | .xisi i d, A, e, X, Wx, h, q => by
    simp only [chkE] at q
    split at q
    · simp only [Bool.and_eq_true, decide_eq_true_eq, Bool.not_eq_true'] at q
      obtain ⟨⟨⟨⟨⟨⟨⟨⟨q0, q1⟩, q2⟩, q3⟩, rfl⟩, q5⟩, q6⟩, q7⟩, _⟩ := q
      obtain ⟨rfl, hg⟩ := bin_is h q0
      exact xisi_ok h hg q1 q2 q3 q5 q6 q7
    · cases q
theorem chkEs_ok : ∀ (c : Es) {A : At} {l : List Expr} {X : Cx} {Wx : WX}, XOk G Z n X Wx A → chkEs Z c A l = true → PA X l (TAx G Wx (evCall G.kl Z.T n) c)
  | .nil, A, l, X, Wx, h, q => by
    simp only [chkEs] at q
    cases l with
    | nil => exact x_nil
    | cons a b => cases q
  | .cons c cs, A, l, X, Wx, h, q => by
    simp only [chkEs] at q
    split at q
    · simp only [Bool.and_eq_true] at q
      exact x_cons (chkE_ok c h q.1.2) (chkEs_ok cs h q.2) (starEach_cons q.1.1)
    · cases q
theorem chkVs_ok : ∀ (c : Es) {A : At} {l : List Expr} {X : Cx} {Wx : WX}, XOk G Z n X Wx A → chkVs Z c A l = true → VsOk X G Wx (evCall G.kl Z.T n) l c
  | .nil, A, l, X, Wx, h, q => by
    simp only [chkVs] at q
    cases l with
    | nil => exact .nil
    | cons a b => cases q
  | .cons c cs, A, l, X, Wx, h, q => by
    simp only [chkVs] at q
    split at q
    · simp only [Bool.and_eq_true] at q
      exact .cons (chkE_ok c h q.1) (chkVs_ok cs h q.2)
    · cases q
theorem chkK_ok : ∀ (c : Es) {A : At} {l : List Keyword} {X : Cx} {Wx : WX}, XOk G Z n X Wx A → chkK Z c A l = true → PK X l (TAx G Wx (evCall G.kl Z.T n) c)
  | .nil, A, l, X, Wx, h, q => by
    simp only [chkK] at q
    cases l with
    | nil => exact k_nil
    | cons a b => cases q
  | .cons c cs, A, l, X, Wx, h, q => by
    simp only [chkK] at q
    split at q
    · simp only [Bool.and_eq_true] at q
      exact k_cons (chkE_ok c h q.1) (chkK_ok cs h q.2)
    · cases q
theorem chkO_ok : ∀ (c : OE) {A : At} {o : Option Expr} {X : Cx} {Wx : WX}, XOk G Z n X Wx A → chkO Z c A o = true → PO X o (TOx G Wx (evCall G.kl Z.T n) c)
  | .no, A, o, X, Wx, h, q => by
    simp only [chkO] at q
    cases o with
    | none => exact o_no
    | some e => cases q
  | .so c, A, o, X, Wx, h, q => by
    simp only [chkO] at q
    split at q
    · exact o_so (chkE_ok c h q)
    · cases q
theorem chkC_ok : ∀ (c : Es) {A : At} {l : List Expr} {X : Cx} {Wx : WX}, XOk G Z n X Wx A → chkC Z c A l = true → PTs X l (TCx G Wx (evCall G.kl Z.T n) c)
  | .nil, A, l, X, Wx, h, q => by
    simp only [chkC] at q
    cases l with
    | nil => exact c_nil
    | cons a b => cases q
  | .cons c r, A, l, X, Wx, h, q => by
    simp only [chkC] at q
    split at q
    · refine c_one ?_
      split at q
      · rename_i hp
        exact y_val (chkE_ok c h q) h.hK (plainTs hp)
      · exact chkT_ok c h q
    · cases q
theorem chkS_ok : ∀ (c : Sr) {A : At} {e tg : Expr} {X : Cx} {Wx : WX}, XOk G Z n X Wx A → chkS Z c A e = true → tupTg c tg = true → PI X tg e (TIx G Wx (evCall G.kl Z.T n) c)
  | .val c, A, e, tg, X, Wx, h, q, t => by
    simp only [chkS] at q
    exact i_val h.hK (chkE_ok c h q)
  | .enum c, A, e, tg, X, Wx, h, q, t => by
    simp only [chkS] at q
    split at q
    · simp only [Bool.and_eq_true] at q
      obtain ⟨rfl, hg⟩ := bin_is h q.1.1
      cases tg with
      | Tuple es k p => exact i_enum h.hK hg (h.blt _ (by decide +kernel)) (chkE_ok c h q.1.2) (starEach_cons q.2)
      | _ => cases t
    · cases q
  | .zip c1 c2, A, e, tg, X, Wx, h, q, t => by
    simp only [chkS] at q
    split at q
    · simp only [Bool.and_eq_true] at q
      obtain ⟨⟨⟨⟨q1, q2⟩, q3⟩, q4⟩, q5⟩ := q
      obtain ⟨rfl, hg⟩ := bin_is h q1
      cases tg with
      | Tuple es k p => exact i_zip h.hK hg (h.blt _ (by decide +kernel)) (chkE_ok c1 h q2) (chkE_ok c2 h q3) (starEach_cons q4) (starEach_cons q5) (back_any (by simp [stars, q5]))
      | _ => cases t
    · cases q
  | .rng1 c, A, e, tg, X, Wx, h, q, t => by
    simp only [chkS] at q
    split at q
    · simp only [Bool.and_eq_true] at q
      obtain ⟨rfl, hg⟩ := bin_is h q.1.1
      exact i_rng1 hg (h.blt _ (by decide +kernel)) (chkE_ok c h q.1.2) (starEach_cons q.2)
    · cases q
  | .rng2 c1 c2, A, e, tg, X, Wx, h, q, t => by
    simp only [chkS] at q
    split at q
    · simp only [Bool.and_eq_true] at q
      obtain ⟨⟨⟨⟨q1, q2⟩, q3⟩, q4⟩, q5⟩ := q
      obtain ⟨rfl, hg⟩ := bin_is h q1
      exact i_rng2 hg (h.blt _ (by decide +kernel)) (chkE_ok c1 h q2) (chkE_ok c2 h q3) (starEach_cons q4) (starEach_cons q5)
    · cases q
theorem chkT_ok : ∀ (c : E) {A : At} {e : Expr} {X : Cx} {Wx : WX}, XOk G Z n X Wx A → chkT Z c A e = true → PT X e (TTx G Wx (evCall G.kl Z.T n) c)
  | .not a, A, e, X, Wx, h, q => by
    simp only [chkT] at q
    split at q
    · refine y_not ?_
      split at q
      · rename_i hp
        exact y_val (chkE_ok a h q) h.hK (plainTs hp)
      · exact chkT_ok a h q
    · cases q
  | .and a b, A, e, X, Wx, h, q => by
    simp only [chkT] at q
    split at q
    · simp only [Bool.and_eq_true] at q
      obtain ⟨q1, q2⟩ := q
      refine (y_and ?_ (tail_pw (.inl rfl) ?_)).pt
      · split at q1
        · rename_i hp
          exact y_val (chkE_ok a h q1) h.hK (plainTs hp)
        · exact chkT_ok a h q1
      · split at q2
        · rename_i hp
          exact y_val (chkE_ok b h q2) h.hK (plainTs hp)
        · exact chkT_ok b h q2
    · cases q
  | .or a b, A, e, X, Wx, h, q => by
    simp only [chkT] at q
    split at q
    · simp only [Bool.and_eq_true] at q
      obtain ⟨q1, q2⟩ := q
      refine (y_or ?_ (tail_pw (.inr rfl) ?_)).pt
      · split at q1
        · rename_i hp
          exact y_val (chkE_ok a h q1) h.hK (plainTs hp)
        · exact chkT_ok a h q1
      · split at q2
        · rename_i hp
          exact y_val (chkE_ok b h q2) h.hK (plainTs hp)
        · exact chkT_ok b h q2
    · cases q
  | .cmp op a b, A, e, X, Wx, h, q => by
    simp only [chkT] at q
    split at q
    · split at q
      · simp only [Bool.and_eq_true] at q
        obtain ⟨j, p, rfl⟩ := isNoneC_is q.1.2
        obtain rfl := isNoneE_is q.2
        exact y_isn (chkE_ok a h q.1.1)
      · simp only [Bool.and_eq_true] at q
        obtain ⟨j, p, rfl⟩ := isNoneC_is q.1.2
        obtain rfl := isNoneE_is q.2
        exact y_nisn (chkE_ok a h q.1.1)
      · simp only [Bool.and_eq_true] at q
        exact y_cmp (cop_ok h q.1.1.1) (noMarks q.1.1.2) (chkE_ok a h q.1.2) (chkE_ok b h q.2)
    · cases q
  | .cmp2 op op' a b c, A, e, X, Wx, h, q => by
    simp only [chkT] at q
    split at q
    · simp only [Bool.and_eq_true] at q
      obtain ⟨⟨⟨⟨⟨q1, q2⟩, q3⟩, q4⟩, q5⟩, q6⟩ := q
      exact y_cmp2 (cop_ok h q1) (cop_ok h q2) (by show behindInMarks _ _ = false; exact noMarks q3) (chkE_ok a h q4) (chkE_ok b h q5) (chkE_ok c h q6)
    · cases q
  | .var _, _, _, _, _, _, q => by simp [chkT] at q
  | .cst _, _, _, _, _, _, q => by simp [chkT] at q
  | .glb _ _, _, _, _, _, _, q => by simp [chkT] at q
  | .tup _, _, _, _, _, _, q => by simp [chkT] at q
  | .lst _ _, _, _, _, _, _, q => by simp [chkT] at q
  | .dct _ _, _, _, _, _, _, q => by simp [chkT] at q
  | .dic, _, _, _, _, _, q => by simp [chkT] at q
  | .bin _ _ _ _, _, _, _, _, _, q => by simp [chkT] at q
  | .neg _, _, _, _, _, _, q => by simp [chkT] at q
  | .ite _ _ _, _, _, _, _, _, q => by simp [chkT] at q
  | .idx _ _, _, _, _, _, _, q => by simp [chkT] at q
  | .sl _ _ _ _, _, _, _, _, _, q => by simp [chkT] at q
  | .rev _ _, _, _, _, _, _, q => by simp [chkT] at q
  | .comp _ _ _ _ _ _, _, _, _, _, _, q => by simp [chkT] at q
  | .call _ _, _, _, _, _, _, q => by simp [chkT] at q
  | .callk _ _ _ _, _, _, _, _, _, q => by simp [chkT] at q
  | .bi _ _, _, _, _, _, _, q => by simp [chkT] at q
  | .src _ _ _, _, _, _, _, _, q => by simp [chkT] at q
  | .meth _ _ _, _, _, _, _, _, q => by simp [chkT] at q
  | .xfld _ _, _, _, _, _, _, q => by simp [chkT] at q
  | .xisi _ _, _, _, _, _, _, q => by simp [chkT] at q
end
theorem tst_ok {A : At} {c : E} {e : Expr} {X : Cx} {Wx : WX} (h : XOk G Z n X Wx A) (q : tst Z c A e = true) : PT X e (TTx G Wx (evCall G.kl Z.T n) c) := by
  unfold tst at q
  split at q
  · rename_i hp
    exact y_val (chkE_ok c h q) h.hK (plainTs hp)
  · exact chkT_ok c h q
end Sg
end

section
set_option Elab.async false
set_option linter.all false
set_option maxRecDepth 100000
set_option maxHeartbeats 4000000
/-! Sg, part 15: statements. -/
namespace Sg
open PySem PySem.Spec PyProof.Rows L2
variable {G : Pg} {Z : Gs} {n : Nat}
section
variable {A : At} {X : Cx} {Wx : WX}
theorem blockF (h : XOk G Z n X Wx A) : X.env.blockKind = .function := by
  unfold Env.blockKind
  rw [h.sc, h.kind]
  rfl
theorem noSwap1 {ts : List Expr} {e : Expr} {l : Nat} {env : Env} (h : ∀ x p, ts ≠ [.Name x p]) : swapsWithSole ts e l env = pure false := by
  cases ts with
  | nil => rfl
  | cons t r =>
    cases r with
    | cons a b => rfl
    | nil =>
      show swapsWith e (some t) l env = pure false
      cases t with
      | Name x p => exact absurd rfl (h x p)
      | _ => cases e <;> rfl
theorem noStores {t e : Expr} {env : Env} (h : notTup e = true) : swappedStores [t] e env = pure none := by
  cases t <;> cases e <;> first | rfl | cases h
theorem noStores2 {o i e : Expr} {p : Pos} {env : Env} : swappedStores [.Subscript o i p] e env = pure none := by
  cases e <;> rfl
theorem names_ne (nd : A.N.Nodup) {i j : Nat} {x y : Str} (hi : slot A i x = true) (hj : slot A j y = true) (h : i ≠ j) : x ≠ y := fun e => by
  subst e
  have h1 : A.N[i]? = some x := of_decide_eq_true hi
  have h2 : A.N[j]? = some x := of_decide_eq_true hj
  exact h (nodup_ix nd h1 h2)
theorem anyStar : ∀ {es : List Expr}, stars es = true → (es.any fun | .Starred .. => true | _ => false) = false
  | [], _ => rfl
  | e :: es, h => by
    have q : notStar e = true ∧ stars es = true := by simpa [stars] using h
    rw [List.any_cons, anyStar q.2, Bool.or_false]
    cases e <;> first | rfl | cases q.1
theorem sw2 {env : Env} {x y : Str} {px py pt pt2 : Pos} {kt k2 : Nat} {e1 e2 : Expr} (hk : env.blockKind = .function) (hx : env.kindOf x = some .local) (hy : env.kindOf y = some .local) (hl : py.line = px.line) (hne : x ≠ y) (hs : stars [e1, e2] = true)
    (h8 : [e1, e2].all (foldedForSure 8) = false) (hc : [e1, e2].all (constantsAlone 8) = false) :
    swappedStores [.Tuple [.Name x px, .Name y py] kt pt] (.Tuple [e1, e2] k2 pt2) env = pure (some [x, y]) := by
  have yx : (y == x) = false := by simpa using Ne.symm hne
  unfold swappedStores
  dsimp only
  refine (if_neg (by rw [hk]; simp)).trans ?_
  refine (if_neg (Bool.eq_false_iff.mp (anyStar hs))).trans ?_
  refine (if_neg (by simp [hx, hy, hl, List.eraseDups_cons, yx, Expr.pos])).trans ?_
  refine (if_neg (Bool.eq_false_iff.mp h8)).trans ?_
  refine (if_neg (Bool.eq_false_iff.mp hc)).trans ?_
  simp [hx, hy, hl, Expr.pos]
theorem sw3 {env : Env} {x y z : Str} {px py pz pt pt2 : Pos} {kt k2 : Nat} {e1 e2 e3 : Expr} (hk : env.blockKind = .function) (hx : env.kindOf x = some .local) (hy : env.kindOf y = some .local) (hz : env.kindOf z = some .local) (hl : py.line = px.line) (hl2 : pz.line = px.line) (hxy : x ≠ y) (hxz : x ≠ z) (hyz : y ≠ z) (hs : stars [e1, e2, e3] = true)
    (h8 : [e1, e2, e3].all (foldedForSure 8) = false) (hc : [e1, e2, e3].all (constantsAlone 8) = false) :
    swappedStores [.Tuple [.Name x px, .Name y py, .Name z pz] kt pt] (.Tuple [e1, e2, e3] k2 pt2) env = pure (some [x, y, z]) := by
  have yx : (y == x) = false := by simpa using Ne.symm hxy
  have zx : (z == x) = false := by simpa using Ne.symm hxz
  have zy : (z == y) = false := by simpa using Ne.symm hyz
  unfold swappedStores
  dsimp only
  refine (if_neg (by rw [hk]; simp)).trans ?_
  refine (if_neg (Bool.eq_false_iff.mp (anyStar hs))).trans ?_
  refine (if_neg (by simp [hx, hy, hz, hl, hl2, List.eraseDups_cons, yx, zx, zy, Expr.pos])).trans ?_
  refine (if_neg (Bool.eq_false_iff.mp h8)).trans ?_
  refine (if_neg (Bool.eq_false_iff.mp hc)).trans ?_
  simp [hx, hy, hz, hl, hl2, Expr.pos]
/-- not exchanged -/
theorem sw_no {ts vs : List Expr} {kt k2 : Nat} {pt pt2 : Pos} (h : XOk G Z n X Wx A) {l : List Nat} (hs : stars vs = true) (hlen : ts.length = l.length)
    (q : (vs.all (foldedForSure 8) || !(decide (l.length = 2) || decide (l.length = 3)) || (ts.any fun | .Name x _ => !lcl A x | _ => false)) = true) :
    swappedStores [.Tuple ts kt pt] (.Tuple vs k2 pt2) X.env = pure none := by
  unfold swappedStores
  dsimp only
  by_cases c1 : (!(ts.length == 2 || ts.length == 3) || vs.length != ts.length || X.env.blockKind != .function) = true
  · exact if_pos c1
  · refine (if_neg c1).trans ?_
    refine (if_neg (Bool.eq_false_iff.mp (anyStar hs))).trans ?_
    split
    · rfl
    · rename_i c2
      split
      · rfl
      · rename_i c3
        exfalso
        simp only [Bool.or_eq_true] at q
        rcases q with (q | q) | q
        · exact c3 q
        · have : ¬ (l.length = 2 ∨ l.length = 3) := by simpa using q
          apply c1
          have e1 : (ts.length == 2 || ts.length == 3) = false := by
            rw [hlen]
            simpa using this
          rw [e1]
          rfl
        · apply c2
          rw [Bool.or_eq_true]
          left
          simp only [bne_iff_ne, ne_eq]
          intro z
          have lt : ∀ (ts : List Expr) (f : Expr → Option Str), (ts.filterMap f).length = ts.length → ∀ t ∈ ts, f t ≠ none := by
            intro ts f
            induction ts with
            | nil => intro _ t ht; cases ht
            | cons a as ih =>
              intro hh t ht
              rw [List.filterMap_cons] at hh
              have le := List.length_filterMap_le f as
              cases qa : f a with
              | none => rw [qa] at hh; simp at hh; omega
              | some b =>
                rw [qa] at hh
                rcases List.mem_cons.mp ht with rfl | ht
                · rw [qa]; simp
                · exact ih (by simpa using hh) t ht
          obtain ⟨t, ht, hq⟩ := List.any_eq_true.mp q
          have := lt _ _ z t ht
          apply this
          cases t with
          | Name x p =>
            have hq : (!lcl A x) = true := hq
            have : ¬ X.env.kindOf x = some .local := fun e => by
              have e2 : A.sc.names.lookup x = some .local := by rw [← h.sc]; exact e
              unfold lcl at hq
              rw [e2] at hq
              cases hq
            simp [this]
          | _ => cases hq
end

section
variable {A : At} {X : Cx} {Wx : WX}
theorem par_cons {i : Nat} {l : List Nat} {ts : List Expr} (h : (parNames A (i :: l) ts).isSome = true) : ∃ x p r, ts = .Name x p :: r ∧ slot A i x = true ∧ lcl A x = true ∧ (parNames A l r).isSome = true := by
  cases ts with
  | nil => cases h
  | cons t r =>
    cases t with
    | Name x p =>
      simp only [parNames] at h
      split at h
      · rename_i hx
        refine ⟨x, p, r, rfl, hx.1, hx.2, ?_⟩
        cases q : parNames A l r with
        | none => rw [q] at h; cases h
        | some _ => rfl
      · cases h
    | _ => cases h
theorem par_nil {ts : List Expr} (h : (parNames A [] ts).isSome = true) : ts = [] := by
  cases ts with
  | nil => rfl
  | cons t r => cases t <;> cases h
theorem es_cons {cs : Es} {e : Expr} {es : List Expr} (h : chkEs Z cs A (e :: es) = true) : ∃ c r, cs = .cons c r ∧ chkEs Z r A es = true := by
  cases cs with
  | nil => simp [chkEs] at h
  | cons c r =>
    have q : (notStar e = true ∧ chkE Z c A e = true) ∧ chkEs Z r A es = true := by simpa [chkEs] using h
    exact ⟨c, r, rfl, q.2⟩
theorem es_nil {cs : Es} (h : chkEs Z cs A [] = true) : cs = .nil := by
  cases cs with
  | nil => rfl
  | cons c r => simp [chkEs] at h
theorem par_ok (h : XOk G Z n X Wx A) {l : List Nat} {ts vs : List Expr} {kt k2 : Nat} {pt p2 sp : Pos} {cs : Es} (q : parB A l ts vs = true) (q2 : chkEs Z cs A vs = true) (st : stars vs = true) (hl : vs.length = l.length) (hp : PA X vs (TAx G Wx (evCall G.kl Z.T n) cs)) :
    PS X (.Assign [.Tuple ts kt pt] (.Tuple vs k2 p2) sp) (TSx G Wx (evCall G.kl Z.T n) (.par l cs)) := by
  unfold parB at q
  simp only [Bool.and_eq_true, Bool.or_eq_true, decide_eq_true_eq, Bool.not_eq_true'] at q
  obtain ⟨⟨⟨⟨⟨⟨q1, q3⟩, q4⟩, q5⟩, q6⟩, q7⟩, q8⟩ := q
  have hc := (h.calm q8).1
  have hN : X.N.Nodup := h.hN ▸ h.nd
  rcases q1 with q1 | q1
  · match l, q1 with
    | [i, j], _ =>
      match vs, hl with
      | [e1, e2], _ =>
        obtain ⟨c1, r1, rfl, z1⟩ := es_cons q2
        obtain ⟨c2, r2, rfl, z2⟩ := es_cons z1
        obtain rfl := es_nil z2
        obtain ⟨x, px, t1, rfl, hx1, hx2, y1⟩ := par_cons q3
        obtain ⟨y, py, t2, rfl, hy1, hy2, y2⟩ := par_cons y1
        obtain rfl := par_nil y2
        have hij : i ≠ j := by simpa using q5
        have ly : py.line = px.line := by simpa [sameLine] using q4
        exact s_par2 hc hN (h.slot hx1) (h.slot hy1) hij (h.lcl hx2) (h.lcl hy2) hp (sw2 (blockF h) (h.lcl hx2) (h.lcl hy2) ly (names_ne h.nd hx1 hy1 hij) st q6 q7) (noSwap1 (by intro x p z; cases z))
  · match l, q1 with
    | [i, j, k], _ =>
      match vs, hl with
      | [e1, e2, e3], _ =>
        obtain ⟨c1, r1, rfl, z1⟩ := es_cons q2
        obtain ⟨c2, r2, rfl, z2⟩ := es_cons z1
        obtain ⟨c3, r3, rfl, z3⟩ := es_cons z2
        obtain rfl := es_nil z3
        obtain ⟨x, px, t1, rfl, hx1, hx2, y1⟩ := par_cons q3
        obtain ⟨y, py, t2, rfl, hy1, hy2, y2⟩ := par_cons y1
        obtain ⟨z, pz, t3, rfl, hz1, hz2, y3⟩ := par_cons y2
        obtain rfl := par_nil y3
        have hd : (i ≠ j ∧ i ≠ k) ∧ j ≠ k := by simpa using q5
        have ll : py.line = px.line ∧ pz.line = px.line := by simpa [sameLine] using q4
        exact s_par3 hc hN (h.slot hx1) (h.slot hy1) (h.slot hz1) hd.1.1 hd.1.2 hd.2 (h.lcl hx2) (h.lcl hy2) (h.lcl hz2) hp
          (sw3 (blockF h) (h.lcl hx2) (h.lcl hy2) (h.lcl hz2) ll.1 ll.2 (names_ne h.nd hx1 hy1 hd.1.1) (names_ne h.nd hx1 hz1 hd.1.2) (names_ne h.nd hy1 hz1 hd.2) st q6 q7) (noSwap1 (by intro x p z; cases z))
theorem go_len : ∀ {l : List Nat} {ts : List Expr}, chkTg.go A l ts = true → ts.length = l.length
  | [], [], _ => rfl
  | [], t :: ts, h => by cases t <;> cases h
  | i :: l, [], h => by cases h
  | i :: l, t :: ts, h => by
    cases t with
    | Name x p =>
      have q : (slot A i x = true ∧ sto A x = true) ∧ chkTg.go A l ts = true := by simpa [chkTg.go] using h
      rw [List.length_cons, List.length_cons, go_len q.2]
    | _ => cases h
theorem ser_ok (h : XOk G Z n X Wx A) {l : List Nat} {ts vs : List Expr} {kt k2 : Nat} {pt p2 sp : Pos} {cs : Es} (q : serB A l ts vs = true) (q2 : chkEs Z cs A vs = true) (st : stars vs = true) (hl : vs.length = l.length) (h1000 : esLen cs ≤ 1000) (hp : PA X vs (TAx G Wx (evCall G.kl Z.T n) cs)) :
    PS X (.Assign [.Tuple ts kt pt] (.Tuple vs k2 p2) sp) (TSx G Wx (evCall G.kl Z.T n) (.par l cs)) := by
  unfold serB at q
  rw [Bool.and_eq_true] at q
  obtain ⟨q1, q3⟩ := q
  have q1' : A.calm = true ∧ chkTg.go A l ts = true := by simpa [chkTg] using q1
  have hlt := go_len q1'.2
  have ht : PG X (.Tuple ts kt pt) (TGx G (.tp l)) := tg_ok h (by simpa [chkTg] using q1')
  have r := s_setT (G := G) (cf := evCall G.kl Z.T n) (Wx := Wx) (pos := sp) (x_tup (k := k2) (pos := p2) hp h1000) ht (noSwap1 (by intro x p z; cases z)) (sw_no h st hlt q3) rfl
  refine ps_weak r fun D s H hh => ?_
  obtain ⟨T, σ, M, rfl, rm, rs, hh⟩ := hh
  refine ⟨T, σ, M, rfl, rm, rs, ?_⟩
  simp only [evS, evE] at hh ⊢
  cases q : evEs G.kl (evCall G.kl Z.T n) cs σ M <;> rw [q] at hh <;> exact hh
end

/-! ### what is said of raise and of try (proved behind) -/
def RaiseOk (Z : Gs) (n : Nat) : Prop := ∀ (G : Pg) (X : Cx) (Wx : WX) (A : At) (c : String) (cs : Es) (p1 p2 p3 : Pos) (es : List Expr), XOk G Z n X Wx A → A.calm = true → glo A (Str.ofString c) = true → plainName (Str.ofString c) = true → c ∈ Z.rs → chkEs Z cs A es = true →
  (match Z.xc.lookup c with
    | some (none, _) => es.isEmpty
    | some (some _, _) => decide (es.length = 1)
    | none => false) = true → PS X (.Raise (some (.Call (.Name (Str.ofString c) p1) es [] p2)) none p3) (TSx G Wx (evCall G.kl Z.T n) (.raise c cs))
/-- the clauses of a try: names, classes, suites -/
inductive HsIs (Z : Gs) (n : Nat) (A : At) : Hs → List ExceptHandler → Prop
  | nil : HsIs Z n A .nil []
  | cons {c : String} {i : Option Nat} {b : Ss} {r : Hs} {p1 p2 : Pos} {nm : Option Str} {body : List Stmt} {hds : List ExceptHandler} (g : glo A (Str.ofString c) = true) (pn : plainName (Str.ofString c) = true) (kc : (Z.xc.lookup c).isSome = true)
      (ni : match i, nm with | none, none => True | some i, some y => slot A i y = true ∧ lcl A y = true | _, _ => False)
      (hb : ∀ (G : Pg) (X : Cx), XOk G Z n X noWX { A with calm := false, top := false } → PSs X body (TSsx G noWX (evCall G.kl Z.T n) b)) (ne : body ≠ []) (r' : HsIs Z n A r hds) :
      HsIs Z n A (.cons c i b r) (.ExceptHandler (some (.Name (Str.ofString c) p1)) nm body p2 :: hds)
def TryOk (Z : Gs) (n : Nat) : Prop := ∀ (G : Pg) (X : Cx) (Wx : WX) (A : At) (b : Ss) (hs : Hs) (body : List Stmt) (hds : List ExceptHandler) (p : Pos), XOk G Z n X Wx A → A.calm = true → A.top = true →
  (∀ (X : Cx) (Wx : WX), XOk G Z n X Wx { A with top := false } → PSs X body (TSsx G Wx (evCall G.kl Z.T n) b)) → HsIs Z n A hs hds → hds ≠ [] →
  PS X (.Try body hds [] [] p) (TSx G Wx (evCall G.kl Z.T n) (.try_ b hs))
theorem swapB_is {A : At} {X : Cx} {Wx : WX} (h : XOk G Z n X Wx A) {x : Str} {px sp : Pos} {e : Expr} (hc : notComp e = false) (q : swapB A x px e = true) : ∃ elt gs scope p, e = .ListComp elt gs scope p ∧ X.env.scope.names.lookup x = some .local ∧ swapsWith e (some (.Name x px)) sp.line X.env = pure true := by
  cases e with
  | ListComp elt gs scope p =>
    unfold swapB at q
    simp only [Bool.and_eq_true, Bool.not_eq_true'] at q
    exact ⟨elt, gs, scope, p, rfl, h.lcl q.1.1, sw_true (by rw [h.sc]; exact h.kind) (h.lcl q.1.1) q.1.2 q.2⟩
  | _ => cases q
theorem swapB_no {A : At} {X : Cx} {Wx : WX} (h : XOk G Z n X Wx A) {x : Str} {px : Pos} {l : Nat} {e : Expr} (hc : isLC e = true) (q : swapB A x px e = false) : swapsWith e (some (.Name x px)) l X.env = pure false := by
  cases e with
  | ListComp elt gs scope p =>
    unfold swapB at q
    show pure (X.env.blockKind == .function && X.env.kindOf x == some .local && px.line == p.line && !(scope.names.any fun (n, k) => n == x && (k == .local || k == .cell))) = pure false
    have e1 : (X.env.kindOf x == some .local) = lcl A x := by
      show (X.env.scope.names.lookup x == some .local) = _
      rw [h.sc]
      unfold lcl
      split <;> simp_all
    rw [blockF h, e1]
    have e2 : (ScopeKind.function == ScopeKind.function && lcl A x && px.line == p.line && !(scope.names.any fun (n, k) => n == x && (k == .local || k == .cell))) = false := by
      rw [← q]
      simp
    rw [e2]
  | _ => cases hc
mutual
theorem chkSt_ok (hR : RaiseOk Z n) (hT : TryOk Z n) : ∀ (c : S) {G : Pg} {A : At} {s : Stmt} {X : Cx} {Wx : WX}, XOk G Z n X Wx A → chkSt Z c A s = true → PS X s (TSx G Wx (evCall G.kl Z.T n) c)
  | .expr c, G, A, s, X, Wx, h, q => by
    unfold chkSt at q
    split at q
    · simp only [Bool.and_eq_true] at q
      exact s_expr (chkE_ok c h q.1) (noSwap q.2)
    · cases q
  | .set i c, G, A, s, X, Wx, h, q => by
    unfold chkSt at q
    split at q
    · rename_i x px e sp
      simp only [Bool.and_eq_true, Bool.or_eq_true] at q
      obtain ⟨⟨⟨q1, q2⟩, q3⟩, q4⟩ := q
      obtain ⟨s1, s2⟩ := h.sto q2
      by_cases hc : notComp e = true
      · exact s_set (h.hN ▸ h.nd) (h.slot q1) s1 (chkE_ok c h q3) (noSwap hc) s2
      · have hc' : notComp e = false := by simpa using hc
        have qLC : isLC e = true := by
          rcases q4 with q4 | q4
          · exact absurd q4 hc
          · exact q4
        by_cases q5 : swapB A x px e = true
        case neg => exact s_set (h.hN ▸ h.nd) (h.slot q1) s1 (chkE_ok c h q3) (swapB_no h qLC (by simpa using q5)) s2
        obtain ⟨elt, gs, scope, p, rfl, hl, sw⟩ := swapB_is (sp := sp) h hc' q5
        cases c with
        | comp fz el tg src cs own =>
          unfold chkE at q3
          split at q3
          · rename_i elt2 tgt iter ifs k scope2 p2 heq
            cases heq
            simp only [Bool.and_eq_true, decide_eq_true_eq, List.all_eq_true] at q3
            obtain ⟨⟨⟨⟨⟨⟨⟨⟨⟨q0, rfl⟩, q2'⟩, q3⟩, q4'⟩, q5'⟩, q6⟩, q7⟩, q8⟩, q9⟩ := q3
            have e1 : (own.map fun i => (A.N.getD i "", i)).map (·.2) = own := by
              rw [List.map_map]
              exact List.map_id' own
            have ok := blkOk_by q5'
            have r := s_setC (G := G) (cf := evCall G.kl Z.T n) (Wx := Wx) (fz := fz) (el := el) (cs := cs) (own := own.map fun i => (A.N.getD i "", i)) (h.calm q0).1 (h.hN ▸ h.nd) (h.slot q1) hl sw (by
                rw [e1]; intro i hi; have := q2' i hi; simpa using this) (chkS_ok src h q3 q4') (by rw [h.hN, h.sc]; exact ok)
              (fun s H C cl fp => tg_ok (h.blk q0 ok.kind s H C cl fp) q6) (fun s H C cl fp => chkC_ok cs (h.blk q0 ok.kind s H C cl fp) q7) (fun s H C cl fp => chkE_ok el (h.blk q0 ok.kind s H C cl fp) q8) (noFold q9)
            rw [e1] at r
            exact r
          · cases q3
        | bi b cs => unfold chkE at q3; split at q3 <;> first | (rename_i heq; cases heq; done) | cases q3
        | _ => simp [chkE] at q3
    · cases q
  | .setT l c, G, A, s, X, Wx, h, q => by
    unfold chkSt at q
    split at q
    · simp only [Bool.and_eq_true] at q
      obtain ⟨⟨q1, q2⟩, q3⟩ := q
      exact s_setT (chkE_ok c h q2) (tg_ok h q1) (noSwap1 (by intro x p z; cases z)) (noStores q3) rfl
    · cases q
  | .par l cs, G, A, s, X, Wx, h, q => by
    unfold chkSt at q
    split at q
    · rename_i ts kt pt vs k2 p2 sp
      simp only [Bool.and_eq_true, Bool.or_eq_true, decide_eq_true_eq] at q
      obtain ⟨⟨⟨q1, q2⟩, q3⟩, q4⟩ := q
      obtain ⟨st, len⟩ := esLen_chk q2
      rcases q1 with q1 | q1
      · exact par_ok h q1 q2 st (by omega) (chkEs_ok cs h q2)
      · exact ser_ok h q1 q2 st (by omega) q4 (chkEs_ok cs h q2)
    · cases q
  | .setI o i c, G, A, s, X, Wx, h, q => by
    unfold chkSt at q
    split at q
    · simp only [Bool.and_eq_true] at q
      obtain ⟨⟨⟨q1, q2⟩, q3⟩, q4⟩ := q
      exact s_setI h.hK h.hu (chkE_ok o h q2) (chkE_ok i h q3) (chkE_ok c h q1) (asgSub q4) (noSwap1 (by intro x p z; cases z)) noStores2 rfl
    · cases q
  | .augI o i c, G, A, s, X, Wx, h, q => by
    unfold chkSt at q
    split at q
    · simp only [Bool.and_eq_true] at q
      obtain ⟨⟨⟨q1, q2⟩, q3⟩, q4⟩ := q
      exact s_augI (j := 0) (op := default) h.hK h.hu (chkE_ok o h q2) (chkE_ok i h q3) (chkE_ok c h q1) (augSt q4)
    · cases q
  | .augN i c, G, A, s, X, Wx, h, q => by
    unfold chkSt at q
    split at q
    · simp only [Bool.and_eq_true] at q
      obtain ⟨⟨q1, q2⟩, q3⟩ := q
      obtain ⟨s1, s2⟩ := h.sto q2
      exact s_augN (h.hN ▸ h.nd) (h.slot q1) s1 (chkE_ok c h q3) s2
    · cases q
  | .ret c, G, A, s, X, Wx, h, q => by
    unfold chkSt at q
    split at q
    · exact s_ret (chkE_ok c h q)
    · cases q
  | .retN, G, A, s, X, Wx, h, q => by
    unfold chkSt at q
    split at q
    · exact s_retN
    · cases q
  | .ife c a b, G, A, s, X, Wx, h, q => by
    unfold chkSt at q
    split at q
    · simp only [Bool.and_eq_true] at q
      exact s_ife (tst_ok h q.1.1) (chkSs_ok hR hT a h q.1.2) (chkSs_ok hR hT b h q.2)
    · cases q
  | .for_ tg src b, G, A, s, X, Wx, h, q => by
    unfold chkSt at q
    split at q
    · simp only [Bool.and_eq_true] at q
      obtain ⟨⟨⟨⟨⟨q1, q2⟩, q3⟩, q4⟩, q5⟩, q6⟩ := q
      obtain ⟨hc, _, hp, _⟩ := h.calm q1
      exact s_for hp hc (chkS_ok src h q3 q4) (tg_ok h q2) (chkSs_ok hR hT b h q6) (noFold q5)
    · cases q
  | .while_ c b, G, A, s, X, Wx, h, q => by
    unfold chkSt at q
    split at q
    · simp only [Bool.and_eq_true] at q
      obtain ⟨⟨q1, q2⟩, q3⟩ := q
      obtain ⟨hc, _, hp, _⟩ := h.calm q1
      exact s_while hp (tst_ok h q2) (chkSs_ok hR hT b h q3)
    · cases q
  | .raise c cs, G, A, s, X, Wx, h, q => by
    unfold chkSt at q
    split at q
    · simp only [Bool.and_eq_true, decide_eq_true_eq] at q
      obtain ⟨⟨⟨⟨⟨⟨q1, rfl⟩, q3⟩, q4⟩, q7⟩, q5⟩, q6⟩ := q
      exact hR G X Wx A c cs _ _ _ _ h q1 q3 q4 (by simpa using q7) q5 q6
    · cases q
  | .try_ b hs, G, A, s, X, Wx, h, q => by
    unfold chkSt at q
    split at q
    · simp only [Bool.and_eq_true, Bool.not_eq_true', List.isEmpty_eq_false_iff] at q
      obtain ⟨⟨⟨⟨q1, q2⟩, q3⟩, q4⟩, q5⟩ := q
      exact hT G X Wx A b hs _ _ _ h q1 q2 (fun X Wx h' => chkSs_ok hR hT b h' q3) (chkHs_ok hR hT hs q4) q5
    · cases q
  | .pass, G, A, s, X, Wx, h, q => by
    unfold chkSt at q
    split at q
    · exact s_pass
    · cases q
  | .brk, G, A, s, X, Wx, h, q => by
    unfold chkSt at q
    split at q
    · exact s_brk
    · cases q
  | .cnt, G, A, s, X, Wx, h, q => by
    unfold chkSt at q
    split at q
    · exact s_cnt
    · cases q
theorem chkSs_ok (hR : RaiseOk Z n) (hT : TryOk Z n) : ∀ (c : Ss) {G : Pg} {A : At} {l : List Stmt} {X : Cx} {Wx : WX}, XOk G Z n X Wx A → chkSs Z c A l = true → PSs X l (TSsx G Wx (evCall G.kl Z.T n) c)
  | .nil, G, A, l, X, Wx, h, q => by
    simp only [chkSs] at q
    cases l with
    | nil => exact ss_nil
    | cons a b => cases q
  | .cons c cs, G, A, l, X, Wx, h, q => by
    simp only [chkSs] at q
    split at q
    · simp only [Bool.and_eq_true] at q
      exact ss_cons (chkSt_ok hR hT c h q.1) (chkSs_ok hR hT cs h q.2)
    · cases q
theorem chkHs_ok (hR : RaiseOk Z n) (hT : TryOk Z n) : ∀ (c : Hs) {A : At} {l : List ExceptHandler}, chkHs Z c A l = true → HsIs Z n A c l
  | .nil, A, l, q => by
    simp only [chkHs] at q
    cases l with
    | nil => exact .nil
    | cons a b => cases q
  | .cons c i b r, A, l, q => by
    unfold chkHs at q
    split at q
    · simp only [Bool.and_eq_true, decide_eq_true_eq, Bool.not_eq_true', List.isEmpty_eq_false_iff] at q
      obtain ⟨⟨⟨⟨⟨⟨⟨rfl, q1⟩, q2⟩, q3⟩, q4⟩, q5⟩, q6⟩, q7⟩ := q
      refine .cons q1 q2 q3 ?_ (fun G X h' => chkSs_ok hR hT b h' q5) q6 (chkHs_ok hR hT r q7)
      split at q4
      · trivial
      · rw [Bool.and_eq_true] at q4; exact q4
      · cases q4
    · cases q
end
end Sg
end

section
set_option Elab.async false
set_option linter.all false
set_option maxRecDepth 100000
set_option maxHeartbeats 4000000
/-! Sg, part 16: try. -/
namespace Sg
open PySem PySem.Spec PyProof.Rows L2

abbrev Suite := Addr → Value → Option Addr → TS
/-- the ends of a suite whose name goes behind it -/
def goneE (D : Ends) (i : Nat) : Ends :=
  { nx := fun s H => D.nx (s.set i none) H, rt := D.rt, bk := fun s H => D.bk (s.set i none) H, ct := fun s H => D.ct (s.set i none) H }
/-- what the clauses want of an error, one behind another, each with a name or without -/
def wMix (K : PySem.W.Frag) (Wo : WX) (D : Ends) : List (Value × Option Nat × Suite) → WX
  | [] => Wo
  | (c, o, u) :: r => fun cls d s H => ∃ b, PySem.W.exmOne K cls c = some b ∧
    (b = true → ∀ a, H a = none → match o with
      | none => u a cls d D s H
      | some i => u a cls d (goneE D i) (s.set i (some (.ref a))) H) ∧
    (b = false → wMix K Wo D r cls d s H)
inductive MixOk (X : Cx) : List ExceptHandler → List (Value × Option Nat × Suite) → Prop
  | nil : MixOk X [] []
  | plain {x : Str} {c : Value} {u : Suite} {st : Stmt} {sts : List Stmt} {p1 p2 : Pos} {hs : List ExceptHandler} {l : List (Value × Option Nat × Suite)} (nm : Names X x c)
      (su : ∀ (a : Addr) (o : Obj) (cls : Value) (d : Option Addr) (pn : List (Addr × Obj)), Zc cls d o → (∃ vs, o.data = .fields vs) → PSs (X.suite a ((a, o) :: pn)) (st :: sts) (u a cls d)) (r : MixOk X hs l) :
      MixOk X (.ExceptHandler (some (.Name x p1)) none (st :: sts) p2 :: hs) ((c, none, u) :: l)
  | named {x y : Str} {i : Nat} {c : Value} {u : Suite} {st : Stmt} {sts : List Stmt} {p1 p2 : Pos} {hs : List ExceptHandler} {l : List (Value × Option Nat × Suite)} (nm : Names X x c) (hi : X.N[i]? = some y) (hl : X.env.kindOf y = some .local)
      (su : ∀ (a : Addr) (o : Obj) (cls : Value) (d : Option Addr) (pn : List (Addr × Obj)), Zc cls d o → (∃ vs, o.data = .fields vs) → PSs (X.suite a ((a, o) :: pn)) (st :: sts) (u a cls d)) (r : MixOk X hs l) :
      MixOk X (.ExceptHandler (some (.Name x p1)) (some y) (st :: sts) p2 :: hs) ((c, some i, u) :: l)
section
variable {X : Cx} {body : List Stmt} {k : ExceptHandler} {ks : List ExceptHandler} {l : List (Value × Option Nat × Suite)} {pos : Pos} {tb : WX → TS} {Wo : WX}
/-- an error has come down to the clauses: they are tried one by one -/
theorem mix_go {pins pins' : List (Addr × Obj)} {σ : L2.St} {H : Hp} {sI s' : Shared} {h : Heap} {B : Heap} {a : Addr} {cls : Value} {d : Option Addr} {D : Ends} (hst : X.stack = X.env :: X.outer) (hfr : X.env.frame = some X.env.locals) (hN : X.N.Nodup) (tk : Takes X Wo)
    (J : Inv X pins σ H sI) (J2 : Inv X pins σ H { s' with heap := h }) (nb : ∀ b o, sI.heap.get? b = some o → b ∉ frs X.stack → B.get? b = some o) (up : sI.heap.UpToSlots h) (na : H a = none) (os : s'.os = sI.os) (ag : AllBare s'.gens)
    (fly : HandSPX.FlyingZ B (X.env :: X.outer) a (Zc cls d) h) (nL : a ≠ X.env.locals) (nF : a ∉ X.fs) :
    ∀ {hs : List ExceptHandler} {l : List (Value × Option Nat × Suite)}, MixOk X hs l → wMix X.K Wo D l cls d σ H → wpAny (model X.prog X.w) X.A (handleBy (.ref a) X.env hs) (SP X pins D) X.xe { s' with heap := h } := by
  obtain ⟨oa, va, ha, za, da⟩ := fly.there
  have S := J2.suite ha da na nL nF
  have ask : ∀ {x : Str} {c : Value} {p1 : Pos} {Q : Value → Shared → Prop} {E : Value → Shared → Prop}, Names X x c → Q c { s' with heap := h } → wpAny (model X.prog X.w) (X.A.mark (some (.ref a))) (eval (.Name x p1) X.env) Q E { s' with heap := h } := fun {x c p1 Q E} nm q => by
    obtain ⟨g1, g2, g3⟩ := nm
    rcases g3 with g3 | ⟨g3, g4, g5⟩
    · exact ld_glob (X := X.suite a ((a, oa) :: (X.pn ++ pins))) S g1 g3 q g2
    · exact ld_blt (X := X.suite a ((a, oa) :: (X.pn ++ pins))) S g1 g3 g4 q g5 g2
  have lt : PySem.W.Looks (model X.prog X.w) h (typeOf (.ref a)) cls := fun A Q E s k q => wpAny_typeOf_ref (k _ _ ha) (by rw [za.1]; exact q)
  intro hs l hk
  induction hk with
  | nil =>
    intro w
    refine wpAny_handleBy_nil ?_
    obtain ⟨_, _, _, o1, v1, T1, _, _, e1, _, d1, f1, _⟩ := id fly
    unfold PySem.passOn
    refine wpAny_bind (wpAny_field e1 d1 f1 ?_)
    rw [if_neg (by simp : ¬ ((Value.ref T1 == Value.none) = true))]
    have last : wpAny (model X.prog X.w) X.A (setFlight (.ref a) X.env.frame) (fun _ s2 => wpAny (model X.prog X.w) X.A (throw (.ref a) : Sem Flow) (SP X pins D) X.xe s2) X.xe { s' with heap := h } := by
      rw [hfr]
      refine HandSPX.setFlight_upZ fly fun h2 held up2 => wpAny_throw (tk _ _ ?_)
      exact ⟨a, B, sI, pins, σ, H, cls, d, rfl, J, nb, up.trans up2, .inr (.inr (hst ▸ held)), na, os, ag, w⟩
    first
      | exact wpAny_bind (wpAny_pure (wpAny_bind last))
      | exact wpAny_bind last
  | @plain x c u st sts p1 p2 hs2 l2 nm su r ih =>
    intro w
    obtain ⟨b, hb, yes, no⟩ := w
    have LM := PySem.W.exm_one (M := model X.prog X.w) J2.kIn lt hb
    refine wpAny_handleBy_cons (codeAny_handlers_test (ask nm (LM.here ?_))) (fun q => nomatch q)
    cases b with
    | false =>
      show wpAny _ X.A (handleBy (.ref a) X.env hs2) _ _ _
      exact ih (no rfl)
    | true =>
      refine codeAny_handlers_suite (HandSPX.lands_againZ fly fun h4 fl4 up4 => ?_)
      have J4 : Inv X pins σ H { s' with heap := h4 } := J.landed nb fl4.1 (up.trans up4) os ag
      obtain ⟨o4, v4, e4, z4, d4⟩ := fl4.there
      refine wpAny_mono ((su a o4 cls d (X.pn ++ pins) z4 ⟨_, d4⟩).run [] _ σ H D (J4.suite e4 d4 na nL nF) (yes rfl a na)) (fun f s6 q => ?_) (fun _ _ z => z.elim)
      cases f with
      | ret v => obtain ⟨y, σ6, H6, S6, r6, q6⟩ := q; exact ⟨y, σ6, H6, S6.unsuite J.ok, r6, q6⟩
      | next => obtain ⟨σ6, H6, S6, q6⟩ := q; exact ⟨σ6, H6, S6.unsuite J.ok, q6⟩
      | brk => obtain ⟨σ6, H6, S6, q6⟩ := q; exact ⟨σ6, H6, S6.unsuite J.ok, q6⟩
      | cont => obtain ⟨σ6, H6, S6, q6⟩ := q; exact ⟨σ6, H6, S6.unsuite J.ok, q6⟩
  | @named x y i c u st sts p1 p2 hs2 l2 nm hi hl su r ih =>
    intro w
    obtain ⟨b, hb, yes, no⟩ := w
    have LM := PySem.W.exm_one (M := model X.prog X.w) J2.kIn lt hb
    refine wpAny_handleBy_cons (codeAny_handlers_test (ask nm (LM.here ?_))) (fun q => nomatch q)
    cases b with
    | false =>
      show wpAny _ X.A (handleBy (.ref a) X.env hs2) _ _ _
      exact ih (no rfl)
    | true =>
      refine codeAny_handlers_suite_as (HandSPX.lands_againZ fly fun h4 fl4 up4 => ?_)
      have J4 : Inv X pins σ H { s' with heap := h4 } := J.landed nb fl4.1 (up.trans up4) os ag
      obtain ⟨o4, v4, e4, z4, d4⟩ := fl4.there
      refine store_ok (X := X.suite a ((a, o4) :: (X.pn ++ pins))) (v := .ref a) (J4.suite e4 d4 na nL nF) hN hi (.inl hl) rfl (fun s5 S5 => ?_) (.inr hl)
      refine wpAny_mono ((su a o4 cls d (X.pn ++ pins) z4 ⟨_, d4⟩).run [] s5 _ H (goneE D i) S5 (yes rfl a na)) (fun f s6 q => ?_) (fun _ _ z => z.elim)
      have gone : ∀ {σ6 : L2.St} {H6 : Hp} {Q : Shared → Prop}, Inv (X.suite a ((a, o4) :: (X.pn ++ pins))) [] σ6 H6 s6 → (∀ s7, Inv X pins (σ6.set i none) H6 s7 → Q s7) →
          wpAny (model X.prog X.w) X.A (do bindName X.env y .none; unbindBehindTheSuite X.env y p2) (fun _ s7 => Q s7) X.xe s6 := fun S6 hq => gone_ok (S6.unsuite J.ok) hN hi hl hq
      cases f with
      | ret v => obtain ⟨y, σ6, H6, S6, r6, q6⟩ := q; exact gone S6 fun s7 J7 => ⟨y, _, _, J7, r6, q6⟩
      | next => obtain ⟨σ6, H6, S6, q6⟩ := q; exact gone S6 fun s7 J7 => ⟨_, _, J7, q6⟩
      | brk => obtain ⟨σ6, H6, S6, q6⟩ := q; exact gone S6 fun s7 J7 => ⟨_, _, J7, q6⟩
      | cont => obtain ⟨σ6, H6, S6, q6⟩ := q; exact gone S6 fun s7 J7 => ⟨_, _, J7, q6⟩
theorem ps_mix (hst : X.stack = X.env :: X.outer) (hfr : X.env.frame = some X.env.locals) (hN : X.N.Nodup) (tk : Takes X Wo)
    (hb : ∀ (W : WX) (pn : List (Addr × Obj)) (xe : Value → Shared → Prop), Takes (X.tr pn xe) W → PassesOwn (model X.prog X.w) X.A X.env xe → PSs (X.tr pn xe) body (tb W)) (hk : MixOk X (k :: ks) l) :
    PS X (.Try body (k :: ks) [] [] pos) (fun D s H => tb (wMix X.K Wo D l) D s H) := by
  refine ⟨fun pins s σ H D I h => wpAny_Try_except ?_⟩
  have ok := I.ok
  have fr : X.A.frames = some (X.env :: X.outer) := by rw [ok.frames, hst]
  let catch_ : Value → Shared → Prop := fun e s₁ => wpAny (model X.prog X.w) X.A (noteFrame e X.env)
    (fun _ s₂ => wpAny (model X.prog X.w) X.A (setFlight e none) (fun _ s₃ => wpAny (model X.prog X.w) X.A (handleBy e X.env (k :: ks)) (SP X pins D) X.xe s₃) X.xe s₂) X.xe s₁
  have tkB : Takes (X.tr (X.pn ++ pins) catch_) (wMix X.K Wo D l) := fun u s' xx => by
    obtain ⟨a, B, sI, pins', σ', H', cls, d, rfl, J', nb, up, sky, na, os, ag, w⟩ := xx
    have J : Inv X pins σ' H' sI := J'.ofTry ok
    show wpAny (model X.prog X.w) X.A (noteFrame (.ref a) X.env) _ _ _
    refine Sky.land Zc.steady fr hfr (hst ▸ sky) fun h3 fl up3 => ?_
    have J3 : Inv X pins σ' H' { s' with heap := h3 } := J.landed nb fl.1 (up.trans up3) os ag
    obtain ⟨o3, v3, e3, z3, d3⟩ := fl.there
    have nfr : a ∉ frs (X.env :: X.outer) := fun hm => by
      obtain ⟨_, o', e', hn⟩ := fl.2.2.1.mem hm
      rw [e3] at e'
      cases e'
      exact hn _ d3
    have nL : a ≠ X.env.locals := fun z => nfr (List.mem_filterMap.mpr ⟨X.env, List.mem_cons_self, by rw [hfr, z]⟩)
    have nF : a ∉ X.fs := fun hm => by
      obtain ⟨e, he, q⟩ := List.mem_filterMap.mp hm
      exact nfr (List.mem_filterMap.mpr ⟨e, List.mem_cons_of_mem _ he, q⟩)
    exact mix_go (pins' := pins') hst hfr hN tk J J3 nb (up.trans up3) na os ag fl nL nF hk w
  refine wpAny_mono ((hb _ (X.pn ++ pins) catch_ tkB PassesOwn.looking).run [] s σ H D (I.toTry _) h) (fun f s1 q => ?_) (fun e s1 he => he)
  cases f with
  | next => obtain ⟨σ', H', J', q⟩ := q; exact wpAny_execs_nil ⟨σ', H', J'.ofTry ok, q⟩
  | brk => obtain ⟨σ', H', J', q⟩ := q; exact ⟨σ', H', J'.ofTry ok, q⟩
  | cont => obtain ⟨σ', H', J', q⟩ := q; exact ⟨σ', H', J'.ofTry ok, q⟩
  | ret u => obtain ⟨v, σ', H', J', r, q⟩ := q; exact ⟨v, σ', H', J'.ofTry ok, r, q⟩
end
end Sg
end

section
set_option Elab.async false
set_option linter.all false
set_option maxRecDepth 100000
set_option maxHeartbeats 4000000
/-! Sg, part 17: what the evaluator says of try. -/
namespace Sg
open PySem PySem.Spec PyProof.Rows L2
variable {Z : Gs} {n : Nat}
/-- slot i holds the caught error at a -/
def Pg.caught (G : Pg) (i : Nat) (a : Addr) (cls : Value) (d : Option Addr) : Pg :=
  { G with xr := fun T j v c ws => j = i ∧ v = .ref a ∧ IsX G T cls d c ws, xm := fun T T' j v c ws e h => ⟨h.1, h.2.1, h.2.2.ext e⟩ }
theorem caught_set {G : Pg} {T : Ws} {s : L2.St} {σ : Sl} (no : ∀ T i v c ws, ¬ G.xr T i v c ws) (r : RelS G T s σ) {i : Nat} {a : Addr} {cls : Value} {d : Option Addr} {c : String} {ws : List Vl} (ix : IsX G T cls d c ws) : RelS (G.caught i a cls d) T (s.set i (some (.ref a))) (σ.set i (some (.xc c ws))) := by
  refine ⟨by simp [r.len], fun j w' hj => ?_⟩
  by_cases e : i = j
  · subst e
    have hl : i < σ.length := by
      have := (List.getElem?_eq_some_iff.mp hj).1
      simpa using this
    rw [List.getElem?_set_self hl] at hj
    cases hj
    exact ⟨.ref a, by rw [List.getElem?_set_self (by rw [r.len]; exact hl)], .inr ⟨c, ws, rfl, rfl, rfl, ix⟩⟩
  · rw [List.getElem?_set_ne e] at hj
    obtain ⟨v, h1, h2⟩ := r.val j w' hj
    refine ⟨v, by rw [List.getElem?_set_ne e]; exact h1, ?_⟩
    rcases h2 with h2 | ⟨c', ws', _, h2⟩
    · exact .inl h2
    · exact absurd h2 (no _ _ _ _ _)
theorem caught_out {G : Pg} {T : Ws} {s : L2.St} {σ : Sl} {i : Nat} {a : Addr} {cls : Value} {d : Option Addr} (r : RelS (G.caught i a cls d) T s σ) : RelS G T (s.set i none) (σ.set i none) := by
  refine ⟨by simp [r.len], fun j w' hj => ?_⟩
  by_cases e : i = j
  · subst e
    by_cases hl : i < σ.length
    · rw [List.getElem?_set_self hl] at hj
      cases hj
    · rw [List.getElem?_eq_none (by simpa using hl)] at hj
      cases hj
  · rw [List.getElem?_set_ne e] at hj
    obtain ⟨v, h1, h2⟩ := r.val j w' hj
    refine ⟨v, by rw [List.getElem?_set_ne e]; exact h1, ?_⟩
    rcases h2 with h2 | ⟨c', ws', _, h2, _⟩
    · exact .inl h2
    · exact absurd h2.symm e
/-- the context of a suite -/
theorem XOk.suite {G : Pg} {X : Cx} {Wx : WX} {A : At} (h : XOk G Z n X Wx A) (hc : A.calm = true) (a : Addr) (o : Obj) (pn : List (Addr × Obj)) (G' : Pg) (gk : G'.K = G.K) (gl : G'.kl = G.kl) (ga : G'.cA = G.cA)
    (fn : ∀ f F, Z.tb.lookup f = some F → FnAt G' Z n (X.suite a ((a, o) :: pn)) f F)
    (su : (∀ T i v c ws, ¬ G'.xr T i v c ws) ∨ ∃ (cls : Value) (d : Option Addr), Zc cls d o ∧ (∃ vs, o.data = .fields vs) ∧ ∀ T i v c ws, G'.xr T i v c ws → v = .ref a ∧ IsX G' T cls d c ws) :
    XOk G' Z n (X.suite a ((a, o) :: pn)) noWX { A with calm := false, top := false } where
  hK := gk.trans h.hK
  hkl := gl.trans h.hkl
  hN := h.hN
  nd := h.nd
  sc := h.sc
  kind := h.kind
  calm := fun z => by cases z
  hu := by
    show (X.A.mark (some (.ref a))).units + 200 < cLine
    exact h.hu
  top := fun z => by cases z
  takes := fun _ _ ⟨_, _, _, _, _, _, _, _, _, _, _, _, _, _, _, _, w⟩ => w.elim
  er := fun c fo sup q r => ⟨by rw [ga]; exact (h.er c fo sup q r).ex⟩
  xc := ⟨fun c p q => by rw [ga]; exact h.xc.at_ c p q, fun c d pc pd C D q1 q2 q3 q4 => h.xc.sub c d pc pd C D q1 q2 (ga ▸ q3) (ga ▸ q4), fun c p C q1 q2 => h.xc.isE c p C q1 (ga ▸ q2), fun c f q C q1 q2 => h.xc.fld c f q C q1 (ga ▸ q2)⟩
  fnc := h.fnc
  blt := h.blt
  gl := fun p hp => by
    obtain ⟨u, v, h1, h2, h3⟩ := h.gl p hp
    exact ⟨u, v, h1, h2, fun T => gk ▸ h3 T⟩
  fn := fn
  sui := by
    rcases su with z | ⟨cls, d, h1, h2, h3⟩
    · exact .inl z
    · exact .inr ⟨rfl, X, a, o, pn, cls, d, rfl, h1, h2, h3⟩
theorem tr_ok {G : Pg} {X : Cx} {Wx : WX} {A : At} (h : XOk G Z n X Wx A) (hc : A.calm = true) {W : WX} {pn : List (Addr × Obj)} {xe : Value → Shared → Prop} (tk : Takes (X.tr pn xe) W) (hp : PassesOwn (model X.prog X.w) X.A X.env xe) :
    XOk G Z n (X.tr pn xe) W { A with top := false } where
  hK := h.hK
  hkl := h.hkl
  hN := h.hN
  nd := h.nd
  sc := h.sc
  kind := h.kind
  calm := fun _ => let ⟨a, b, _, d⟩ := h.calm hc; ⟨a, b, hp, d⟩
  hu := h.hu
  top := fun z => by cases z
  takes := tk
  xc := h.xc
  er := h.er
  fnc := h.fnc
  blt := h.blt
  gl := h.gl
  fn := fun f F hf => ⟨(h.fn f F hf).ex⟩
  sui := .inl (by
    rcases h.sui with z | ⟨z, _⟩
    · exact z
    · rw [hc] at z; cases z)
/-- the clauses, as the rule wants them -/
theorem mix_of {G : Pg} {X : Cx} {Wx : WX} {A : At} (h : XOk G Z n X Wx A) (hc : A.calm = true) (ht : A.top = true) : ∀ {hs : Hs} {hds : List ExceptHandler}, HsIs Z n A hs hds →
    ∃ l, MixOk X hds l ∧ ∀ (D : Ends) (T : Ws) (s : L2.St) (σ : Sl) (M : Mm) (c : String) (ws : List Vl) (cls : Value) (d : Option Addr), RelM G.K T M → RelS G T s σ → IsX G T cls d c ws → SatS G Wx T (evHs G.kl (evCall G.kl Z.T n) c ws hs σ M) D → wMix X.K Wx D l cls d s T.H
  | _, _, .nil => by
    refine ⟨[], .nil, fun D T s σ M c ws cls d rm rs ix hh => ?_⟩
    simp only [evHs] at hh
    exact hh cls d T s (Ext.refl T) rm rs ix
  | _, _, .cons (c := e) (i := i) (b := b) (r := r) (nm := nm) (body := body) g pn kc ni hb ne r' => by
    have no : ∀ T i v c ws, ¬ G.xr T i v c ws := by
      rcases h.sui with z | ⟨z, _⟩
      · exact z
      · rw [hc] at z; cases z
    obtain ⟨l, m1, f⟩ := mix_of h hc ht r'
    obtain ⟨pe, h1⟩ := Option.isSome_iff_exists.mp kc
    obtain ⟨D', h2, h3⟩ := h.xc.at_ e pe h1
    have hnm : Names X (Str.ofString e) (.ref D') := ⟨h.glo g, (plain_deb pn).1, .inl h3⟩
    obtain ⟨st, sts, rfl⟩ : ∃ st sts, body = st :: sts := by
      cases body with
      | nil => exact absurd rfl ne
      | cons a b => exact ⟨a, b, rfl⟩
    have one : ∀ {T : Ws} {cls : Value} {d : Option Addr} {c : String} {ws : List Vl}, IsX G T cls d c ws → PySem.W.exmOne X.K cls (.ref D') = some (G.kl.sub c e) := fun {T cls d c ws} ix => by
      obtain ⟨C, p, k1, rfl, k2⟩ := isX_at h ix
      rw [h.hkl]
      exact (h.xc.sub c e p pe C D' k2 h1 k1 h2).1
    cases i with
    | none =>
      cases nm with
      | some y => exact ni.elim
      | none =>
        refine ⟨(.ref D', none, fun a cls d => TSsx G noWX (evCall G.kl Z.T n) b) :: l, .plain hnm (fun a o cls d pl hz hf => ?_) m1, fun D T s σ M c ws cls d rm rs ix hh => ?_⟩
        · exact hb G _ (h.suite hc a o pl G rfl rfl rfl (fun f F hf => ⟨(h.fn f F hf).ex⟩) (.inl no))
        · refine ⟨G.kl.sub c e, one ix, fun eb a na => ?_, fun eb => ?_⟩
          · simp only [evHs] at hh
            rw [if_pos eb] at hh
            refine ⟨T, σ, M, rfl, rm, rs, ?_⟩
            cases q : evSs G.kl (evCall G.kl Z.T n) b σ M with
            | exc a b c d => rw [q] at hh; exact hh.elim
            | bad => rw [q] at hh; exact hh.elim
            | nx σ1 M1 => rw [q] at hh; exact hh
            | brk σ1 M1 => rw [q] at hh; exact hh
            | cnt σ1 M1 => rw [q] at hh; exact hh
            | ret w M1 => rw [q] at hh; exact hh
          · simp only [evHs] at hh
            rw [if_neg (by rw [eb]; exact Bool.false_ne_true)] at hh
            exact f D T s σ M c ws cls d rm rs ix hh
    | some i =>
      cases nm with
      | none => exact ni.elim
      | some y =>
        refine ⟨(.ref D', some i, fun a cls d => TSsx (G.caught i a cls d) noWX (evCall G.kl Z.T n) b) :: l, .named hnm (h.slot ni.1) (h.lcl ni.2) (fun a o cls d pl hz hf => ?_) m1, fun D T s σ M c ws cls d rm rs ix hh => ?_⟩
        · exact hb (G.caught i a cls d) _ (h.suite hc a o pl (G.caught i a cls d) rfl rfl rfl (fun f F hf => ⟨(h.fn f F hf).ex⟩) (.inr ⟨cls, d, hz, hf, fun T j v c ws z => ⟨z.2.1, z.2.2⟩⟩))
        · refine ⟨G.kl.sub c e, one ix, fun eb a na => ?_, fun eb => ?_⟩
          · simp only [evHs] at hh
            rw [if_pos eb] at hh
            refine ⟨T, σ.set i (some (.xc c ws)), M, rfl, rm, caught_set no rs ix, ?_⟩
            show SatS (G.caught i a cls d) noWX T (evSs G.kl (evCall G.kl Z.T n) b (σ.set i (some (.xc c ws))) M) (goneE D i)
            cases q : evSs G.kl (evCall G.kl Z.T n) b (σ.set i (some (.xc c ws))) M with
            | exc a b c d => rw [q] at hh; exact hh.elim
            | bad => rw [q] at hh; exact hh.elim
            | nx σ1 M1 => rw [q] at hh; exact fun T' s' e' rm' rs' => hh T' _ e' rm' (caught_out rs')
            | brk σ1 M1 => rw [q] at hh; exact fun T' s' e' rm' rs' => hh T' _ e' rm' (caught_out rs')
            | cnt σ1 M1 => rw [q] at hh; exact fun T' s' e' rm' rs' => hh T' _ e' rm' (caught_out rs')
            | ret w M1 => rw [q] at hh; exact fun v T' e' rm' iv => hh v T' e' rm' iv
          · simp only [evHs] at hh
            rw [if_neg (by rw [eb]; exact Bool.false_ne_true)] at hh
            exact f D T s σ M c ws cls d rm rs ix hh
theorem try_ok : TryOk Z n := by
  intro G X Wx A b hs body hds p h hc ht hb hh hne
  obtain ⟨st, fr⟩ := h.top ht
  obtain ⟨l, m, f⟩ := mix_of h hc ht hh
  cases hds with
  | nil => exact absurd rfl hne
  | cons k ks =>
    refine ps_weak (ps_mix (tb := fun W => TSsx G W (evCall G.kl Z.T n) b) st fr (h.hN ▸ h.nd) h.takes (fun W pn xe tk hp => hb _ W (tr_ok h hc tk hp)) m) fun D s H hh => ?_
    obtain ⟨T, σ, M, rfl, rm, rs, hh⟩ := hh
    simp only [evS] at hh
    refine ⟨T, σ, M, rfl, rm, rs, ?_⟩
    cases q : evSs G.kl (evCall G.kl Z.T n) b σ M with
    | exc c ws σ1 M1 =>
      rw [q] at hh
      exact fun cls d T' s' e' rm' rs' ix => f D T' s' σ1 M1 c ws cls d rm' rs' ix (SatS.ext e' hh)
    | bad => rw [q] at hh; exact hh
    | nx σ1 M1 => rw [q] at hh; exact hh
    | brk σ1 M1 => rw [q] at hh; exact hh
    | cnt σ1 M1 => rw [q] at hh; exact hh
    | ret w M1 => rw [q] at hh; exact hh
end Sg
end

section
set_option Elab.async false
set_option linter.all false
set_option maxRecDepth 100000
set_option maxHeartbeats 4000000
/-! Sg, part 19: raise. -/
namespace Sg
open PySem PySem.Spec PyProof.Rows L2
variable {Z : Gs} {n : Nat}
section
variable {X : Cx} {P : Program} {C fI cc cda : Addr}
theorem ground_of {pins : List (Addr × Obj)} {σ : L2.St} {H : Hp} {s : Shared} (I : Inv X pins σ H s) : Ground X.K X.mg s.heap := by
  have m := I.ok.mod
  have k : ∀ b o, X.base.get? b = some o → s.heap.get? b = some o := fun b o e => (I.bs b o e).1
  obtain ⟨mb, b1, b2⟩ := m.blt
  exact ⟨m.kin.keeps k, m.glob.keeps k, ⟨mb, b1.keeps k, b2⟩, m.nolimit.keeps k⟩
/-- the two heaps behind new(C): the args, the error -/
theorem pushed {hp : Heap} {us : List Value} : (∀ b o, hp.get? b = some o → ((hp.push (PySem.W.kdv_tup us)).push (PySem.HandSPX.excO C hp.objs.size)).get? b = some o) ∧
    ((hp.push (PySem.W.kdv_tup us)).push (PySem.HandSPX.excO C hp.objs.size)).get? (hp.objs.size + 1) = some (PySem.HandSPX.excO C hp.objs.size) :=
  ⟨fun b o e => Heap.get?_push_of_some _ (Heap.get?_push_of_some _ e), by heap_get⟩
theorem none_at {hp : Heap} {a : Addr} (h : hp.objs.size ≤ a) : hp.get? a = none := by
  cases q : hp.get? a with
  | none => rfl
  | some o => exact absurd (Heap.lt_size q) (Nat.not_lt.mpr h)
/-- C(..) with a class whose __init__ makes no field -/
theorem pmk_none {c : String} {G : Pg} {x : Str} {p pos : Pos} (h : ErrOk G X.prog X.K X.mg c none) (hr : Room 1 X.A) (hg : Gl X x) (hm : ∀ C, G.cA c = some C → X.mg x = some (.ref C)) (hdb : (x == ("__debug__" : Str)) = false) :
    PMk X (.Call (.Name x p) [] [] pos) (fun s H Q => ∀ C, G.cA c = some C → Q (.ref C) none H) := by
  obtain ⟨C, fI, cc, cda, hC0, D, hsup, name, qual, sc, dV, kV, doc, pm, ct, oc, an, od, osl, pa, p0, p1, p2, p3, p4, p5, S, hl, lk, hcd, hbind⟩ := h.ex
  intro pins s σ H Q I q
  obtain ⟨nm, qn, N, bs, bm, sn, sub, ab, col, dd, k0, k1, k2, k3, k5, hC, hbm⟩ := D.oex.cls
  refine wpAny_Call_Name_kw (ld_glob I hg (hm C hC0) ?_ hdb)
  refine PySem.W.callWith_K0 I.kIn D.oex.kC ?_
  obtain ⟨hp, g, d, t, os⟩ := s
  have G1 := ground_of I
  obtain ⟨kk, hget⟩ := pushed (C := C) (hp := hp) (us := [])
  have Gr := G1.keeps kk
  refine wpAny_call (PySem.HandSPX.call_own F.excBase_ValueError (fun Y => PySem.HandSPX.refsVE_contains Y bm hbm) (I.kIn _ _ hC) (PySem.W.looks_findIn I.kIn D.init) (fun self => PySem.W.bind_fn I.kIn self D.ty) (Nat.zero_le _)
    (init0_code D Gr hsup S hl lk hcd (hr.make C [] []).depth (hbind _) hget fun t1 h' tk k e => ?_))
  refine ⟨rfl, ?_⟩
  have na : hp.get? (hp.objs.size + 1) = none := none_at (Nat.le_succ _)
  have nb : ∀ b o, hp.get? b = some o → b ≠ hp.objs.size + 1 := fun b o e => Nat.ne_of_lt (Nat.lt_succ_of_lt (Heap.lt_size e))
  exact ⟨hp.objs.size + 1, _, _, ⟨hp, g, d, t, os⟩, H, .ref C, none, rfl, I, fun b o e => k b o (nb b o e) (kk b o e), na, e, ⟨rfl, rfl⟩, rfl, rfl, I.hok.fresh (Nat.le_succ _), rfl, I.bare, raises_own D.oex.exC D.oex.tyC, q C hC0⟩
/-- C(e), the value in its field -/
theorem pmk_one {c f : String} {G : Pg} {x : Str} {p pos : Pos} {e : Expr} {t : TA} (h : ErrOk G X.prog X.K X.mg c (some f)) (hr : Room 1 X.A) (hg : Gl X x) (hm : ∀ C, G.cA c = some C → X.mg x = some (.ref C)) (hdb : (x == ("__debug__" : Str)) = false) (ha : PA X [e] t)
    (he : starEach [e] X.env = (false, eval e X.env) :: starEach [] X.env) :
    PMk X (.Call (.Name x p) [e] [] pos) (fun s H Q => t s H fun vs H1 => ∀ C, G.cA c = some C → ∃ v, vs = [v] ∧ ∀ dx, H1 dx = none → Q (.ref C) (some dx) (upd H1 dx (.xd [(Str.ofString f, v)]))) := by
  obtain ⟨C, fI, cc, cda, hC0, D, hsup, name, qual, y, sc, dV, kV, doc, pm, ct, oc, an, od, osl, pa, pb, p0, p1, p2, p3, p4, p5, p6, p7, p8, p9, px, S, hl, hy, hys, hno, lk, hcd, hbind⟩ := h.ex
  intro pins s σ H Q I q
  obtain ⟨nm, qn, N, bs, bm, sn, sub, ab, col, dd, k0, k1, k2, k3, k5, hC, hbm⟩ := D.oex.cls
  refine wpAny_Call_Name_kw (ld_glob I hg (hm C hC0) ?_ hdb)
  refine PySem.W.callWith_K (h₀ := X.base) I.ok.mod.kin D.oex.kC (thn (ha.run pos pins s σ H _ I q) fun us s1 ⟨vs, H1, I1, r1, q1⟩ => ⟨I1.kIn, ?_⟩) he rfl
  obtain ⟨v, rfl, q2⟩ := q1 C hC0
  obtain ⟨u, rfl, ru⟩ := r1.one
  show wpAny _ _ (call (.ref C) [u]) _ _ _
  obtain ⟨hp, g, d, tk, os⟩ := s1
  have G1 := ground_of I1
  obtain ⟨kk, hget⟩ := pushed (C := C) (hp := hp) (us := [u])
  have Gr := G1.keeps kk
  have nb : ∀ b o, hp.get? b = some o → b ≠ hp.objs.size + 1 := fun b o e => Nat.ne_of_lt (Nat.lt_succ_of_lt (Heap.lt_size e))
  have hna : X.K.lookup (hp.objs.size + 1) = none := by
    cases z : X.K.lookup (hp.objs.size + 1) with
    | none => rfl
    | some o => exact absurd rfl (nb _ _ (I1.kIn _ _ z))
  refine wpAny_call (PySem.HandSPX.call_own F.excBase_ValueError (fun Y => PySem.HandSPX.refsVE_contains Y bm hbm) (I1.kIn _ _ hC) (PySem.W.looks_findIn I1.kIn D.init) (fun self => PySem.W.bind_fn I1.kIn self D.ty) (by show 1 ≤ sizeLine; decide)
    (init1_code D Gr hsup S hl hy hys hno lk hcd (hr.make C [u] []).depth (hbind _ _) hget hna fun t1 dx h' tk2 k big ne e hns => ?_))
  refine ⟨rfl, ?_⟩
  have bigx : hp.objs.size ≤ dx := Nat.le_trans (by
    have := Heap.lt_size hget
    have z := Heap.size_push (hp.push (PySem.W.kdv_tup [u])) (PySem.HandSPX.excO C hp.objs.size)
    have z2 := Heap.size_push hp (PySem.W.kdv_tup [u])
    show hp.objs.size ≤ ((hp.push (PySem.W.kdv_tup [u])).push (PySem.HandSPX.excO C hp.objs.size)).objs.size
    omega) big
  obtain ⟨W, w1, w2⟩ := restrict h' fun b => decide (b ≠ hp.objs.size + 1)
  have wk : ∀ b, b ≠ hp.objs.size + 1 → W.get? b = h'.get? b := fun b hb => w1 b (decide_eq_true hb)
  have wa : W.get? (hp.objs.size + 1) = none := w2 _ (by simp)
  have keep : ∀ b o, hp.get? b = some o → W.get? b = some o := fun b o e => (wk b (nb b o e)).trans (k b o (nb b o e) (kk b o e))
  have hn1 : H1 (hp.objs.size + 1) = none := I1.hok.fresh (Nat.le_succ _)
  have J : Inv X pins σ (upd H1 dx (.xd [(Str.ofString f, v)])) ⟨W, g, d, tk2, os⟩ := I1.laid (t' := tk2) (a := dx) (o := .xd [(Str.ofString f, v)]) (h' := W) keep bigx ⟨_, hns.at fun o y => (wk dx ne).trans y, relO_put (fs := []) ru fun g => True.intro⟩
  refine ⟨hp.objs.size + 1, _, _, ⟨W, g, d, tk2, os⟩, _, .ref C, some dx, rfl, J, fun b o e => ?_, wa, e, ⟨rfl, rfl⟩, rfl, rfl, by rw [upd_ne (Ne.symm ne)]; exact hn1, rfl, I1.bare, raises_own D.oex.exC D.oex.tyC, q2 dx (I1.hok.fresh bigx)⟩
  by_cases hb : b = hp.objs.size + 1
  · rw [hb, wa] at e; cases e
  · exact (wk b hb).symm.trans e
end
theorem raise_ok : RaiseOk Z n := by
  intro G X Wx A c cs p1 p2 p3 es h hc hg pn hrs hes hfl
  obtain ⟨hcx, hr, _, _⟩ := h.calm hc
  obtain ⟨st, len⟩ := esLen_chk hes
  cases q : Z.xc.lookup c with
  | none => rw [q] at hfl; cases hfl
  | some pq =>
    obtain ⟨fo, sup⟩ := pq
    rw [q] at hfl
    have E := h.er c fo sup q hrs
    obtain ⟨C0, hC0, hmC⟩ := h.xc.at_ c _ q
    have hm : ∀ C, G.cA c = some C → X.mg (Str.ofString c) = some (.ref C) := fun C e => by
      rw [hC0] at e
      cases e
      exact hmC
    have hk : G.kl.fld c = some fo := by rw [h.hkl]; show (Z.xc.lookup c).map (·.1) = some fo; rw [q]; rfl
    have hr1 : Room 1 X.A := hr.mono (Nat.le_add_left _ _)
    cases fo with
    | none =>
      have : es = [] := by simpa using hfl
      subst this
      obtain rfl := es_nil hes
      refine ps_weak (ps_raise hcx h.takes (pmk_none E hr1 (h.glo hg) hm (plain_deb pn).1)) fun D s H hh => ?_
      obtain ⟨T, σ, M, rfl, rm, rs, hh⟩ := hh
      simp only [evS, evEs, R.thn_ok] at hh
      intro C hC
      exact hh (.ref C) none T s (Ext.refl T) rm rs ⟨C, hC, rfl, by rw [hk]; exact ⟨rfl, rfl⟩⟩
    | some f =>
      have l1 : es.length = 1 := by simpa using hfl
      match es, l1 with
      | [e], _ =>
        obtain ⟨c1, r1, rfl, z1⟩ := es_cons hes
        obtain rfl := es_nil z1
        have st' : notStar e = true := by simpa [stars] using st
        refine ps_weak (ps_raise hcx h.takes (pmk_one E hr1 (h.glo hg) hm (plain_deb pn).1 (chkEs_ok _ h hes) (starEach_cons st'))) fun D s H hh => ?_
        obtain ⟨T, σ, M, rfl, rm, rs, hh⟩ := hh
        simp only [evS] at hh
        refine ⟨T, σ, M, rfl, rm, rs, ?_⟩
        cases q9 : evEs G.kl (evCall G.kl Z.T n) (.cons c1 .nil) σ M with
        | exc a b d => rw [q9] at hh; exact fun cls d' T' e' rm' ix => hh cls d' T' s e' rm' (rs.ext e') ix
        | bad => rw [q9] at hh; exact hh.elim
        | ok ws M1 =>
          rw [q9] at hh
          have l1 : ws.length = 1 := evEs_len q9
          intro vs T1 e1 rm1 i1 C hC
          match ws, l1, i1, hh with
          | [w], _, i1, hh =>
            obtain ⟨v, rfl, iw⟩ := i1.one
            refine ⟨v, rfl, fun dx hdx => ?_⟩
            obtain ⟨e2, rm2, np⟩ := fresh_fz rm1 hdx (.xd [(Str.ofString f, v)])
            exact hh (.ref C) (some dx) _ s (e1.trans e2) rm2 ((rs.ext e1).ext e2) ⟨C, hC, rfl, by rw [hk]; exact ⟨dx, v, w, rfl, rfl, upd_same, np, iw.ext e2⟩⟩
end Sg
end

section
set_option Elab.async false
set_option linter.all false
set_option maxRecDepth 100000
set_option maxHeartbeats 2000000
/-! Sg, part 20: the law's end. -/
namespace Sg
open PySem PySem.Spec PyProof.Rows L2

/-- what must be said of each def: where it lies, its text -/
structure DefAt (K : PySem.W.Frag) (mg : Str → Option Value) (Z : Gs) (f : String) (F : Fn) : Prop where
  ex : ∃ (a : Addr) (N ps : List Str) (st : Stmt) (fd : FuncData), mg (Str.ofString f) = some (.ref a) ∧ Fun K (Str.ofString f) (Str.ofString f) st a fd ∧ chkFn Z F N st = true ∧ argsOf (defArgs st) = some ps ∧
    (∀ (kV doc pm : Value) (an : Option Addr) (cdv ct : Value) (us : List Value), us.length = ps.length → bindArgs (PySem.W.fnOf (Str.ofString f) (Str.ofString f) (defArgs st) (defBody st) (defScope st) .none kV doc pm an cdv ct) ⟨us, []⟩ = pure (ps.zip us)) ∧
    ∀ names ks, (f, names, ks) ∈ Z.kw → ∀ (kV doc pm : Value) (an : Option Addr) (cdv ct : Value) (us : List Value), us.length = names.length →
      bindArgs (PySem.W.fnOf (Str.ofString f) (Str.ofString f) (defArgs st) (defBody st) (defScope st) .none kV doc pm an cdv ct) ⟨[], (names.map Str.ofString).zip us⟩ = pure (ps.zip (ks.map fun k => us.getD k .none))
/-- what must be said of the program as a whole -/
structure PgOk (P : Program) (K : PySem.W.Frag) (mg : Str → Option Value) (G : Pg) (Z : Gs) : Prop where
  hK : G.K = K
  kl : G.kl = Z.kl
  no : ∀ T i v c ws, ¬ G.xr T i v c ws
  defs : ∀ f F, Z.tb.lookup f = some F → DefAt K mg Z f F
  gl : ∀ p ∈ Z.gl, ∃ u v, mg (Str.ofString p.1) = some u ∧ RelV v u ∧ ∀ T, IsV K T v p.2
  blt : ∀ x ∈ bnames, mg x = none
  xc : XcOk G Z K mg
  er : ∀ c fo sup, Z.xc.lookup c = some (fo, sup) → c ∈ Z.rs → ErrOk G P K mg c fo
variable {P : Program} {w : World} {K : PySem.W.Frag} {mg : Str → Option Value} {G : Pg} {Z : Gs} {base : Heap}
theorem chkFn_is {F : Fn} {N ps : List Str} {st : Stmt} (h : chkFn Z F N st = true) (hp : argsOf (defArgs st) = some ps) :
    ps.length = F.np ∧ N.length = F.nl ∧ FnScope N ps (defScope st) ∧ chkSs Z F.body ⟨N, defScope st, defScope st, true, true⟩ (defBody st) = true := by
  unfold chkFn at h
  rw [hp] at h
  simp only [Bool.and_eq_true, decide_eq_true_eq, Bool.not_eq_true', List.all_eq_true] at h
  obtain ⟨⟨⟨⟨⟨⟨⟨⟨⟨h1, h2⟩, h3⟩, h4⟩, h5⟩, h6⟩, h7⟩, h8⟩, h9⟩, h10⟩ := h
  refine ⟨h1, h2, ⟨?_, h6, h7, h3, h4, fun x hx => ?_, fun y hy e => ?_⟩, h10⟩
  · split at h5
    · assumption
    · cases h5
  · have q := h8 x hx
    split at q
    · exact .inl (by assumption)
    · exact .inr (by assumption)
    · cases q
  · have q := h9 y hy
    rw [e] at q
    cases q
/-- all defs keep what the evaluator says, at every depth -/
theorem all_fn (H : PgOk P K mg G Z) (n : Nat) : ∀ (f : String) (F : Fn), Z.tb.lookup f = some F →
    ∃ (a : Addr) (fd : FuncData) (ps : List Str), mg (Str.ofString f) = some (.ref a) ∧ PySem.W.keepIn K (.ref a) = true ∧ Binds K fd ps [] ∧ ps.length = F.np ∧ (∀ (s : Shared) (us : List Value), us.length = ps.length → BindsTo s fd ⟨us, []⟩ (ps.zip us)) ∧ (∀ names ks, (f, names, ks) ∈ Z.kw → KwB K fd ps (names.map Str.ofString) ks) ∧ ∀ base : Heap, FnG P w K mg base (n + 1) a fd ps (SPf G Z.T f F.np n) := by
  have hK := H.hK
  subst hK
  induction n with
  | zero =>
    intro f F hF
    obtain ⟨a, N, ps, st, fd, h1, h2, h3, h4, h5, h6⟩ := (H.defs f F hF).ex
    have hkw : ∀ names ks, (f, names, ks) ∈ Z.kw → KwB G.K fd ps (names.map Str.ofString) ks := fun names ks hq s us _ hl => by
      obtain ⟨oc, od, kV, doc, pm, an, cdv, ct, osl, rfl, _, _⟩ := h2.ex
      exact .of_eq (h6 names ks hq kV doc pm an cdv ct us (by simpa using hl))
    obtain ⟨l1, l2, sc, hb⟩ := chkFn_is h3 h4
    have hbt : ∀ (s : Shared) (us : List Value), us.length = ps.length → BindsTo s fd ⟨us, []⟩ (ps.zip us) := fun s us hl => by
      obtain ⟨oc, od, kV, doc, pm, an, cdv, ct, osl, rfl, _, _⟩ := h2.ex
      exact .of_eq (h5 kV doc pm an cdv ct us hl)
    refine ⟨a, fd, ps, h1, h2.kp, h2.binds h5, l1, hbt, hkw, fun base => ⟨fun vs _ _ _ h => ?_, fun _ _ _ _ _ _ _ _ _ _ _ _ _ _ h => ?_⟩⟩
    · obtain ⟨T, ws, M, _, _, iv, hl, h⟩ := h
      exact h.elim
    · obtain ⟨T, ws, M, _, _, iv, hl, h⟩ := h
      exact h.elim
  | succ n ih =>
    intro f F hF
    obtain ⟨a, N, ps, st, fd, h1, h2, h3, h4, h5, h6⟩ := (H.defs f F hF).ex
    have hkw : ∀ names ks, (f, names, ks) ∈ Z.kw → KwB G.K fd ps (names.map Str.ofString) ks := fun names ks hq s us _ hl => by
      obtain ⟨oc, od, kV, doc, pm, an, cdv, ct, osl, rfl, _, _⟩ := h2.ex
      exact .of_eq (h6 names ks hq kV doc pm an cdv ct us (by simpa using hl))
    obtain ⟨l1, l2, sc, hb⟩ := chkFn_is h3 h4
    have hbi := h2.binds h5
    have hkp := h2.kp
    obtain ⟨oc, od, kV, doc, pm, an, cdv, ct, osl, rfl, lk, hcd⟩ := h2.ex
    refine ⟨a, _, ps, h1, hkp, hbi, l1, fun s us hl => .of_eq (h5 kV doc pm an cdv ct us hl), hkw, fun base => fn_body lk hcd sc hF l1 l2 fun A outer s H0 E hr hgd => ?_⟩
    refine chkSs_ok raise_ok try_ok F.body (G := G) (A := ⟨N, defScope st, defScope st, true, true⟩) ?_ hb
    exact {
      hK := rfl
      hkl := H.kl
      hN := rfl
      nd := sc.nd
      sc := rfl
      kind := sc.kind
      calm := fun _ => ⟨rfl, hr, passes_of rfl, hgd⟩
      hu := by
        have := hr.un
        show (A.deeper _).units + 200 < cLine
        omega
      top := fun _ => ⟨rfl, rfl⟩
      takes := takes_of rfl rfl rfl rfl
      xc := H.xc
      er := H.er
      fnc := fun _ _ => rfl
      blt := H.blt
      gl := H.gl
      fn := fun f' F' hF' => ⟨by
        obtain ⟨a', fd', ps', g1, g2, g3, _, _, gk, g4⟩ := ih f' F' hF'
        exact ⟨a', fd', ps', g1, g2, g3, gk, g4 base⟩⟩
      sui := .inl H.no }

/-! ### the call of the law -/
section
variable {mb : Str → Option Value} {k : Nat} {fa a : Addr} {fd : FuncData} {x : Str} {sp : Sp} {s1 : Shared} {vs : List Value} {ns : List Int}
/-- over one abstract heap -/
theorem run_over {H : Hp} (kin : K.In s1.heap) (hg : s1.heap.Ns mainGlobals mg) (hb : s1.heap.Ns builtinsNs mb) (hbb : ∀ x : Str, x ≠ "__name__" → mb x = bootBuiltins x) (lim : s1.heap.NoLimit) (gens : s1.gens = #[])
    (ha : s1.heap.get? a = some { cls := .type "list", data := .seq vs.toArray }) (hr : Room k callerA) (F : ∀ b : Heap, K.In b → b.Ns mainGlobals mg → FnG P w K mg b k fa fd [x] sp) (bind : ∀ (s : Shared) (u : Value), BindsTo s fd ⟨[u], []⟩ [(x, u)])
    (only : Only H) (ok : HOk P w H s1.heap) (at_ : ∀ b, H b ≠ none → b = a) (offK : H a ≠ none → K.lookup a = none) (hsp : sp [.ref a] H (fun v _ => v = .bl true) fun _ _ _ => False) :
    codeAny (model P w) callerA (.call (.ref fa) ⟨[.ref a], []⟩) (fun r s' => r = .ok (.ret (.bool true)) ∧ OldK s1.heap s'.heap ∧ s'.os = s1.os ∧ AllBare s'.gens) s1 := by
  have free : ∀ b, b ≠ a → H b = none := fun b ne => by
    cases q : H b with
    | none => rfl
    | some u => exact absurd (at_ b (by rw [q]; simp)) ne
  have names : ∀ {b : Addr} {m : Str → Option Value}, s1.heap.Ns b m → (hidT s1.heap H).Ns b m := fun {b m} hn => by
    obtain ⟨o, es, ep, e1, e2, e3⟩ := hn
    refine ⟨o, es, ep, hidT_get e1 (free b fun z => ?_), e2, e3⟩
    subst z
    rw [ha] at e1
    cases e1
    cases e2
  have kb : K.In (hidT s1.heap H) := fun b o e => hidT_get (kin b o e) (by
    by_cases z : b = a
    · subst z
      cases q : H b with
      | none => rfl
      | some u =>
        have := offK (by rw [q]; simp)
        rw [this] at e
        cases e
    · exact free b z)
  have md : Mod K mg (hidT s1.heap H) := ⟨kb, names hg, ⟨mb, names hb, hbb⟩, by
    obtain ⟨mc, l1, l2⟩ := lim
    exact ⟨mc, names l1, l2⟩⟩
  have env : Env0 P w K mg (hidT s1.heap H) callerA [] s1 H := {
    frames := rfl
    mod := md
    bs := fun b o e => of_hidT e
    bsz := Nat.le_of_eq (hidT_size _ _)
    funs := trivial
    frf := fun b z => nomatch (show b ∈ ([] : List Addr) from z)
    hok := ok
    bare := .of_eq gens }
  have run := (F _ kb (names hg)).run callerA [] s1 H ⟨[.ref a], []⟩ [.ref a] [.ref a] _ _ hr rfl env (bind s1 (.ref a)) (.cons rfl .nil) hsp
  refine codeAny_mono run fun r s' z => ?_
  cases r with
  | error e =>
    obtain ⟨_, _, _, _, _, _, _, _, _, _, _, _, z⟩ := z
    exact z.elim
  | ok fl =>
    cases fl with
    | ret u =>
      obtain ⟨v, H2, os, bare, un, ok2, rv, rfl⟩ := z
      cases rv
      refine ⟨rfl, OldK.of_keep fun b o e => ?_, os, bare⟩
      rcases only b with z | ⟨o2, xs, z⟩
      · exact un.keep b o e z (fun y => nomatch (show b ∈ ([] : List Addr) from y)) (fun y => nomatch y)
      · have e1 := (ok b _ z).1
        have e2 := (ok2 b _ (un.frzs b o2 _ z)).1
        rw [e] at e1
        cases e1
        exact e2
    | next => exact z.elim
    | brk => exact z.elim
    | cont => exact z.elim
theorem law_callG (kin : K.In s1.heap) (hg : s1.heap.Ns mainGlobals mg) (hb : s1.heap.Ns builtinsNs mb) (hbb : ∀ x : Str, x ≠ "__name__" → mb x = bootBuiltins x) (lim : s1.heap.NoLimit) (gens : s1.gens = #[])
    (ha : s1.heap.get? a = some { cls := .type "list", data := .seq vs.toArray }) (hi : IntsAre vs ns) (hl : ns.length ≤ sizeLine) (hr : Room k callerA) (F : ∀ b : Heap, K.In b → b.Ns mainGlobals mg → FnG P w K mg b k fa fd [x] sp) (bind : ∀ (s : Shared) (u : Value), BindsTo s fd ⟨[u], []⟩ [(x, u)])
    (hsp : ∀ H : Hp, Only H → SqL K H a (ns.map V.int) → sp [.ref a] H (fun v _ => v = .bl true) fun _ _ _ => False) :
    codeAny (model P w) callerA (.call (.ref fa) ⟨[.ref a], []⟩) (fun r s' => r = .ok (.ret (.bool true)) ∧ OldK s1.heap s'.heap ∧ s'.os = s1.os ∧ AllBare s'.gens) s1 := by
  have rvs := vals_ints hi
  have len := hi.length
  cases hk : K.lookup a with
  | none =>
    let H : Hp := fun b => if b = a then some (.frz { cls := .type "list", data := .seq vs.toArray } (.lst (ns.map V.int))) else none
    have at_a : H a = some (.frz { cls := .type "list", data := .seq vs.toArray } (.lst (ns.map V.int))) := if_pos rfl
    have off : ∀ b, b ≠ a → H b = none := fun b z => if_neg z
    have only : Only H := fun b => by
      by_cases z : b = a
      · subst z; exact .inr ⟨_, _, at_a⟩
      · exact .inl (off b z)
    refine run_over kin hg hb hbb lim gens ha hr F bind only (fun b u z => ?_) (fun b z => ?_) (fun _ => hk) (hsp H only (.inl (.inr ⟨_, at_a⟩)))
    · by_cases e : b = a
      · subst e
        rw [at_a] at z
        cases z
        exact ⟨ha, by rw [List.length_map]; exact hl, vs, _, rvs, ha⟩
      · rw [off b e] at z; cases z
    · by_cases e : b = a
      · exact e
      · exact absurd (off b e) z
  | some o =>
    have e := kin a o hk
    rw [ha] at e
    cases e
    have only : Only noHp := fun _ => .inl rfl
    exact run_over kin hg hb hbb lim gens ha hr F bind only (fun b u z => nomatch z) (fun b z => absurd rfl z) (fun z => absurd rfl z)
      (hsp noHp only (.inr ⟨_, vs.toArray, _, hk, rfl, rfl, rfl, by rw [List.size_toArray, len]; exact hl, by simpa using rvs⟩))
end
/-- THE END: the law's def gives True by the evaluator, so the row holds -/
theorem walk_ofG {l : PySem.W.OpenLaw} {n k : Nat} {q : Program} {loose : List Str} {XP : (Str → Option Value) → Heap → Prop} {YP : World → Heap → Prop} {d : DefRec} {K : Params → PySem.W.Frag}
    (hn : l.most = some n) (hn2 : n ≤ sizeLine) (hdf : d.params.defaults = []) (hr : Room k callerA) (hY : ∀ (w : World) (h : Heap), YP w h → (K w.params).In h)
    (F : ∀ (w : World) (mg : Str → Option Value) (fa : Addr) (h : Heap), (K w.params).In h → h.Ns mainGlobals mg → mg d.name = some (.ref fa) → ∃ (fd : FuncData) (sp : Sp) (x : Str), (∀ (s : Shared) (u : Value), BindsTo s fd ⟨[u], []⟩ [(x, u)]) ∧
      (∀ b : Heap, FnG l.prog w (K w.params) mg b k fa fd [x] sp) ∧
      ∀ (H : Hp) (a : Addr) (ns : List Int), ns.length ≤ n → Only H → SqL (K w.params) H a (ns.map V.int) → sp [.ref a] H (fun v _ => v = .bl true) fun _ _ _ => False) :
    PySem.W.WalkO q loose XP YP l.row.toRowW d [] (fun f vs => PySem.call f vs) := by
  refine Att.attach_call hn hdf fun w s0 s1 mg mb fa o pm cd doc a vs ns G Y ho hd hcd hmg hobj hints hlen hg => ?_
  obtain ⟨fd, sp, x, bind, hF, hsp⟩ := F w mg fa _ (hY w _ Y) G.T.g hmg
  exact law_callG (hY w _ Y) G.T.g G.T.b G.T.builtins G.T.nolimit hg hobj hints (Nat.le_trans hlen hn2) hr (fun b _ _ => hF b) bind fun H only hS => hsp H a ns hlen only hS
/-- the law's own promise, by the evaluator -/
theorem law_sp {Tb : Tbl} {f : String} {n : Nat} {K : PySem.W.Frag} {G : Pg} (hK : G.K = K) {H : Hp} {a : Addr} {ns : List Int} (hS : SqL K H a (ns.map V.int)) (h : ∃ M, evCall G.kl Tb n f [.scr (ns.map .int)] [] = .ok (.bl true) M) :
    SPf G Tb f 1 n [.ref a] H (fun v _ => v = .bl true) fun _ _ _ => False := by
  obtain ⟨M, h⟩ := h
  refine ⟨⟨H, fun _ => False, []⟩, [.scr (ns.map .int)], [], rfl, ⟨List.nodup_nil, fun a ha => (nomatch ha), fun a (h : False) => h.elim, .nil⟩, .cons (.scr ?_ (ints_is ns)) .nil, rfl, ?_⟩
  · subst hK
    rcases hS with hS | hS
    · exact .inl ⟨hS, fun z => z⟩
    · exact .inr (.inr hS)
  · rw [h]
    exact fun v T' e rm i => i.bl_is
/-- the law's def, at the depth n, as walk_ofG asks it -/
theorem law_end {P : Program} {w : World} {K : PySem.W.Frag} {mg : Str → Option Value} {G : Pg} {Z : Gs} {fa : Addr} {F : Fn} {n most : Nat} {f : String} (H : PgOk P K mg G Z) (hfa : mg (Str.ofString f) = some (.ref fa)) (hF : Z.tb.lookup f = some F) (h1 : F.np = 1)
    (law : ∀ ns : List Int, ns.length ≤ most → ∃ M, evCall Z.kl Z.T n f [.scr (ns.map .int)] [] = .ok (.bl true) M) :
    ∃ (fd : FuncData) (sp : Sp) (x : Str), (∀ (s : Shared) (u : Value), BindsTo s fd ⟨[u], []⟩ [(x, u)]) ∧ (∀ b : Heap, FnG P w K mg b (n + 1) fa fd [x] sp) ∧
      ∀ (H : Hp) (a : Addr) (ns : List Int), ns.length ≤ most → Only H → SqL K H a (ns.map V.int) → sp [.ref a] H (fun v _ => v = .bl true) fun _ _ _ => False := by
  obtain ⟨a, fd, ps, e1, e2, e3, e4, eb, _, e5⟩ := all_fn (w := w) H n f F hF
  rw [hfa] at e1
  cases e1
  rw [h1] at e4
  match ps, e4 with
  | [x], _ =>
    have hK := H.hK
    have hkl := H.kl
    refine ⟨fd, _, x, fun s u => eb s [u] rfl, e5, fun H' a ns hl only hS => ?_⟩
    rw [h1]
    exact law_sp hK hS (by rw [hkl]; exact law ns hl)
end Sg
end

section
set_option Elab.async false
set_option linter.all false
set_option maxRecDepth 100000
set_option maxHeartbeats 2000000
/-! Sg, part 21: the facts of a program, gathered. -/
namespace Sg
open PySem PySem.Spec PyProof.Rows L2
section
variable {K : PySem.W.Frag} {mg : Str → Option Value} {h : Heap} {Z : Gs}
/-- one def -/
theorem def_mk {f : String} {F : Fn} {N ps : List Str} {st : Stmt} {a : Addr} {oc : Value} {od an : Option Addr} {osl : Array (Option Value)} {kV doc pm cdv ct : Value} (X : K.In h) (G : h.Ns mainGlobals mg)
    (e1 : PySem.W.nsIn K mainGlobals (Str.ofString f) = some (some (.ref a)))
    (e2 : K.lookup a = some ⟨oc, od, .func (PySem.W.fnOf (Str.ofString f) (Str.ofString f) (defArgs st) (defBody st) (defScope st) .none kV doc pm an cdv ct), osl⟩) (e3 : PySem.W.codeIn K cdv (Str.ofString f) = true) (e4 : PySem.W.keepIn K (.ref a) = true)
    (c : chkFn Z F N st = true) (p : argsOf (defArgs st) = some ps)
    (b : ∀ (kV doc pm : Value) (an : Option Addr) (cdv ct : Value) (us : List Value), us.length = ps.length → bindArgs (PySem.W.fnOf (Str.ofString f) (Str.ofString f) (defArgs st) (defBody st) (defScope st) .none kV doc pm an cdv ct) ⟨us, []⟩ = pure (ps.zip us))
    (k : ∀ names ks, (f, names, ks) ∈ Z.kw → ∀ (kV doc pm : Value) (an : Option Addr) (cdv ct : Value) (us : List Value), us.length = names.length →
      bindArgs (PySem.W.fnOf (Str.ofString f) (Str.ofString f) (defArgs st) (defBody st) (defScope st) .none kV doc pm an cdv ct) ⟨[], (names.map Str.ofString).zip us⟩ = pure (ps.zip (ks.map fun k => us.getD k .none))) :
    DefAt K mg Z f F := ⟨a, N, ps, st, _, PySem.W.mg_of X G e1, fun_mk e2 e3 e4, c, p, b, k⟩
/-- no call by keywords -/
theorem no_kw {f : String} {P : List String → List Nat → Prop} (h : (Z.kw.all fun q => !decide (q.1 = f)) = true) : ∀ names ks, (f, names, ks) ∈ Z.kw → P names ks := fun names ks hq => by
  have := List.all_eq_true.mp h _ hq
  simp at this
def AllAt (K : PySem.W.Frag) (mg : Str → Option Value) (Z : Gs) : List (String × Fn) → Prop
  | [] => True
  | p :: r => DefAt K mg Z p.1 p.2 ∧ AllAt K mg Z r
theorem allAt_of : ∀ {l : List (String × Fn)}, AllAt K mg Z l → ∀ f F, l.lookup f = some F → DefAt K mg Z f F
  | [], _, f, F, h => by cases h
  | (g, E) :: r, a, f, F, h => by
    rw [List.lookup_cons] at h
    split at h
    · rename_i e
      have : f = g := by simpa using e
      subst this
      cases h
      exact a.1
    · exact allAt_of a.2 f F h
end
/-! ### the classes of errors -/
structure EcOk (K : PySem.W.Frag) (mg : Str → Option Value) (c : String) (C : Addr) : Prop where
  mg : mg (Str.ofString c) = some (.ref C)
  ex : ExcC K C
  ty : PySem.W.typeIn K (.ref C) = some (.type "type")
/-- the program's facts: where the classes lie -/
def pgOf (K : PySem.W.Frag) (kl : Kls) (l : List (String × Addr)) : Pg := ⟨K, kl, fun c => l.lookup c, fun _ _ _ _ _ => False, fun _ _ _ _ _ _ _ h => h⟩
theorem look_mem {α : Type} : ∀ {l : List (String × α)} {c : String} {C : α}, l.lookup c = some C → (c, C) ∈ l
  | [], c, C, h => by cases h
  | (d, D) :: r, c, C, h => by
    rw [List.lookup_cons] at h
    split at h
    · rename_i e
      have : c = d := by simpa using e
      subst this
      cases h
      exact List.mem_cons_self
    · exact List.mem_cons_of_mem _ (look_mem h)
theorem xc_keys {α β : Type} : ∀ {x : List (String × α)} {l : List (String × β)}, x.map (·.1) = l.map (·.1) → ∀ c p, x.lookup c = some p → (l.lookup c).isSome = true
  | [], _, _, c, p, h => by cases h
  | (a, b) :: r, [], e, _, _, _ => by cases e
  | (a, b) :: r, (a', b') :: r', e, c, p, h => by
    simp only [List.map_cons, List.cons.injEq] at e
    obtain ⟨rfl, e⟩ := e
    rw [List.lookup_cons] at h ⊢
    split at h
    · rfl
    · exact xc_keys e c p h
theorem kit_of {K : PySem.W.Frag} {C D : Addr} {b : Bool} (hd : PySem.W.hasDictIn K D = true) (ht : PySem.W.typeIn K (.ref D) = some (.type "type")) (self : PySem.W.subIn K (.ref C) (.ref C) = some true) (h : PySem.W.subIn K (.ref C) (.ref D) = some b) : PySem.W.kitOne K (.ref C) (.ref D) = some b := by
  unfold PySem.W.kitOne
  by_cases e : C = D
  · subst e
    rw [self] at h
    cases h
    simp
  · have ne : (Value.ref C == Value.ref D) = false := by simpa using e
    rw [ne, if_neg Bool.false_ne_true]
    obtain ⟨cd, hc, _⟩ := PySem.W.any_some hd
    unfold PySem.W.kitCls
    simp only [hc, ht]
    simpa using h
theorem xcOk_of {K : PySem.W.Frag} {mg : Str → Option Value} {Z : Gs} {l : List (String × Addr)} (hl : ∀ c p, Z.xc.lookup c = some p → (l.lookup c).isSome = true) (ec : ∀ q ∈ l, EcOk K mg q.1 q.2)
    (sub : ∀ q ∈ l, ∀ r ∈ l, PySem.W.subIn K (.ref q.2) (.ref r.2) = some (Z.kl.sub q.1 r.1)) (self : ∀ q ∈ l, Z.kl.sub q.1 q.1 = true)
    (fl : ∀ q ∈ l, ∀ f s, Z.xc.lookup q.1 = some (some f, s) → XfC K q.2 ∧ PySem.W.findIn K (.ref q.2) (Str.ofString f) = some none) : XcOk (pgOf K Z.kl l) Z K mg where
  at_ := fun c p h => by
    obtain ⟨C, hC⟩ := Option.isSome_iff_exists.mp (hl c p h)
    exact ⟨C, hC, (ec _ (look_mem hC)).mg⟩
  sub := fun c d pc pd C D _ _ h1 h2 => by
    have m1 := look_mem (show l.lookup c = some C from h1)
    have m2 := look_mem (show l.lookup d = some D from h2)
    have s := sub _ m1 _ m2
    have sf := sub _ m1 _ m1
    rw [self _ m1] at sf
    have e := ec _ m2
    exact ⟨PySem.W.exm_ref e.ex.hs e.ex.hd e.ty s, kit_of e.ex.hd e.ty sf s⟩
  isE := fun c p C _ h => (ec _ (look_mem (show l.lookup c = some C from h))).ex
  fld := fun c f q C h1 h => fl _ (look_mem (show l.lookup c = some C from h)) f q h1

/-- the def of an __init__ as it lies: it knows its class by a cell -/
abbrev initFn (qual : Str) (st : Stmt) (kV doc pm : Value) (an : Option Addr) (cda : Addr) (ct : Value) (cc : Addr) : FuncData :=
  PySem.W.fnX "__init__" qual (defArgs st) (defBody st) (defScope st) [("__class__", cc)] .none kV doc pm an (.ref cda) ct
/-- what is asked of the written part for an error class with an __init__ -/
structure IcOk (P : Program) (K : PySem.W.Frag) (mg : Str → Option Value) (qual : Str) (st : Stmt) (C : Addr) : Prop where
  ex : ∃ (fI cc cda : Addr) (oc kV doc pm ct : Value) (od an : Option Addr) (osl : Array (Option Value)), InitC P K C fI cc cda ∧ mg "super" = none ∧ K.lookup fI = some ⟨oc, od, .func (initFn qual st kV doc pm an cda ct cc), osl⟩ ∧ PySem.W.codeIn K (.ref cda) qual = true
theorem err_none {P : Program} {K : PySem.W.Frag} {mg : Str → Option Value} {kl : Kls} {l : List (String × Addr)} {c : String} {qual : Str} {st : Stmt} {C : Addr} {pa p0 p1 p2 p3 p4 : Pos} (hC : l.lookup c = some C) (I : IcOk P K mg qual st C) (ha : defArgs st = selfArgs [⟨"self", none, pa⟩]) (hb : defBody st = [supSt [] p0 p1 p2 p3 p4 p4])
    (S : ScopeI (defScope st) ["self"]) (hl : (p2.endLine == p3.line) = true)
    (bd : ∀ (kV doc pm ct : Value) (an : Option Addr) (cda cc a : Addr), bindArgs (initFn qual st kV doc pm an cda ct cc) ⟨[Value.ref a], []⟩ = pure [(("self" : Str), Value.ref a)]) : ErrOk (pgOf K kl l) P K mg c none := by
  obtain ⟨fI, cc, cda, oc, kV, doc, pm, ct, od, an, osl, h1, h2, h3, h4⟩ := I.ex
  have bd' := bd kV doc pm ct an cda cc
  unfold initFn at h3 bd'
  rw [ha, hb] at h3
  rw [ha, hb] at bd'
  exact ⟨C, fI, cc, cda, hC, h1, h2, "__init__", qual, defScope st, .none, kV, doc, pm, ct, oc, an, od, osl, pa, p0, p1, p2, p3, p4, p4, S, hl, h3, h4, bd'⟩
theorem err_one {P : Program} {K : PySem.W.Frag} {mg : Str → Option Value} {kl : Kls} {l : List (String × Addr)} {c f : String} {qual x : Str} {st : Stmt} {C : Addr} {pa pb p0 p1 p2 p3 p4 p6 p7 p8 p9 px : Pos} (hC : l.lookup c = some C) (I : IcOk P K mg qual st C) (ha : defArgs st = selfArgs [⟨"self", none, pa⟩, ⟨x, none, pb⟩])
    (hb : defBody st = [supSt [.Name x px] p0 p1 p2 p3 p4 p4, fldSt x (Str.ofString f) p6 p7 p8 p9]) (S : ScopeI (defScope st) ["self", x]) (hl : (p2.endLine == p3.line) = true) (hx : (x == ("__debug__" : Str)) = false) (hxs : ("self" : Str) ≠ x) (hno : PySem.W.findIn K (.ref C) (Str.ofString f) = some none)
    (bd : ∀ (kV doc pm ct : Value) (an : Option Addr) (cda cc a : Addr) (v : Value), bindArgs (initFn qual st kV doc pm an cda ct cc) ⟨[Value.ref a, v], []⟩ = pure [(("self" : Str), Value.ref a), (x, v)]) : ErrOk (pgOf K kl l) P K mg c (some f) := by
  obtain ⟨fI, cc, cda, oc, kV, doc, pm, ct, od, an, osl, h1, h2, h3, h4⟩ := I.ex
  have bd' := bd kV doc pm ct an cda cc
  unfold initFn at h3 bd'
  rw [ha, hb] at h3
  rw [ha, hb] at bd'
  exact ⟨C, fI, cc, cda, hC, h1, h2, "__init__", qual, x, defScope st, .none, kV, doc, pm, ct, oc, an, od, osl, pa, pb, p0, p1, p2, p3, p4, p4, p6, p7, p8, p9, px, S, hl, hx, hxs, hno, h3, h4, bd'⟩
end Sg
end

section
set_option Elab.async false
set_option linter.all false
set_option maxRecDepth 100000
/-! Sg, part 30: rules of the evaluator for the mathematics. -/
namespace Sx
open Sg
open PySem (Str PyData)

/-! ### looks at values -/
theorem varV_non : varV (some .non) = some .non := rfl
theorem varV_bl (b : Bool) : varV (some (.bl b)) = some (.bl b) := rfl
theorem varV_int (i : Int) : varV (some (.int i)) = some (.int i) := rfl
theorem varV_str (s : Str) : varV (some (.str s)) = some (.str s) := rfl
theorem varV_tup (l : List Vl) : varV (some (.tup l)) = some (.tup l) := rfl
theorem varV_lst (l : List Vl) : varV (some (.lst l)) = some (.lst l) := rfl
theorem varV_ref (n : Nat) : varV (some (.ref n)) = some (.ref n) := rfl
theorem varV_dic : varV (some .dic) = some .dic := rfl
theorem rd_dic (M : Mm) : rd M .dic = .dic := rfl
theorem varV_scr (l : List Vl) : varV (some (.scr l)) = some (.scr l) := rfl
theorem pure_not_xc {w : Vl} (h : pureV w = true) : varV (some w) = some w := by
  cases w <;> simp [pureV] at h <;> rfl
theorem rd_non (M : Mm) : rd M .non = .non := rfl
theorem rd_bl (M : Mm) (b : Bool) : rd M (.bl b) = .bl b := rfl
theorem rd_int (M : Mm) (i : Int) : rd M (.int i) = .int i := rfl
theorem rd_str (M : Mm) (s : Str) : rd M (.str s) = .str s := rfl
theorem rd_tup (M : Mm) (l : List Vl) : rd M (.tup l) = .tup l := rfl
theorem rd_lst (M : Mm) (l : List Vl) : rd M (.lst l) = .lst l := rfl
theorem rd_scr (M : Mm) (l : List Vl) : rd M (.scr l) = .scr l := rfl
theorem rd_ref {M : Mm} {n : Nat} {l : List Vl} (h : M[n]? = some (.lst l)) : rd M (.ref n) = .lst l := by simp [rd, h]
theorem rd_refd {M : Mm} {n : Nat} {l : List (Vl × Vl)} (h : M[n]? = some (.dct l)) : rd M (.ref n) = .ref n := by simp [rd, h]
theorem rd_pure {M : Mm} {w : Vl} (h : pureV w = true) : rd M w = w := by
  cases w <;> simp [pureV] at h <;> rfl
theorem seq_tup (M : Mm) (l : List Vl) : seq M (.tup l) = some l := rfl
theorem seq_lst (M : Mm) (l : List Vl) : seq M (.lst l) = some l := rfl
theorem seqLst_lst (M : Mm) (l : List Vl) : seqLst M (.lst l) = some l := rfl
theorem seq_ref {M : Mm} {n : Nat} {l : List Vl} (h : M[n]? = some (.lst l)) : seq M (.ref n) = some l := by simp [seq, rd_ref h]
theorem seqLst_ref {M : Mm} {n : Nat} {l : List Vl} (h : M[n]? = some (.lst l)) : seqLst M (.ref n) = some l := by simp [seqLst, rd_ref h]
theorem cellL_of {M : Mm} {n : Nat} {l : List Vl} (h : M[n]? = some (.lst l)) : cellL M n = some l := by simp [cellL, h]
theorem tru_bl (M : Mm) (b : Bool) : tru M (.bl b) = some b := rfl
theorem tru_non (M : Mm) : tru M .non = some false := rfl
theorem mkL_f (l : List Vl) (M : Mm) : mkL true l M = .ok (.lst l) M := rfl
theorem mkL_c (l : List Vl) (M : Mm) : mkL false l M = .ok (.ref M.length) (M ++ [.lst l]) := rfl

/-! ### pure values -/
theorem pureL_iff : ∀ {l : List Vl}, pureL l = true ↔ ∀ x ∈ l, pureV x = true
  | [] => by simp [pureL]
  | x :: r => by simp [pureL, pureL_iff]
theorem pureL_app {l m : List Vl} : pureL (l ++ m) = (pureL l && pureL m) := by
  rw [Bool.eq_iff_iff]; simp [pureL_iff, or_imp, forall_and]
mutual
theorem below_pure (n : Nat) : ∀ {w : Vl}, pureV w = true → below n w = true
  | .non, _ => by simp [below]
  | .bl _, _ => by simp [below]
  | .int _, _ => by simp [below]
  | .str _, _ => by simp [below]
  | .tup l, h => by simp only [below]; exact belowL_pure n (by simpa [pureV] using h)
  | .lst l, h => by simp only [below]; exact belowL_pure n (by simpa [pureV] using h)
  | .ref _, h => by simp [pureV] at h
  | .xc _ _, h => by simp [pureV] at h
  | .scr _, h => by simp [pureV] at h
theorem belowL_pure (n : Nat) : ∀ {l : List Vl}, pureL l = true → belowL n l = true
  | [], _ => by simp [belowL]
  | x :: r, h => by
    have h : pureV x = true ∧ pureL r = true := by simpa [pureL] using h
    simp [belowL, below_pure n h.1, belowL_pure n h.2]
end
mutual
theorem pure_R : ∀ {w : Vl}, pureV w = true → pureR w = true
  | .non, _ => rfl
  | .bl _, _ => rfl
  | .int _, _ => rfl
  | .str _, h => by simpa only [pureV, pureR] using h
  | .tup l, h => by simp only [pureR]; exact pureL_R (by simpa [pureV] using h)
  | .lst l, h => by simp only [pureR]; exact pureL_R (by simpa [pureV] using h)
  | .ref _, h => by simp [pureV] at h
  | .xc _ _, h => by simp [pureV] at h
  | .scr _, h => by simp [pureV] at h
  | .dic, _ => rfl
theorem pureL_R : ∀ {l : List Vl}, pureL l = true → pureRL l = true
  | [], _ => rfl
  | x :: r, h => by
    have h : pureV x = true ∧ pureL r = true := by simpa [pureL] using h
    simp [pureRL, pure_R h.1, pureL_R h.2]
end
theorem pureRL_iff : ∀ {l : List Vl}, pureRL l = true ↔ ∀ x ∈ l, pureR x = true
  | [] => by simp [pureRL]
  | x :: r => by simp [pureRL, pureRL_iff]
theorem pureRL_app {l m : List Vl} : pureRL (l ++ m) = (pureRL l && pureRL m) := by
  rw [Bool.eq_iff_iff]; simp [pureRL_iff, or_imp, forall_and]
mutual
theorem below_R (n : Nat) : ∀ {w : Vl}, pureR w = true → below n w = true
  | .non, _ => by simp [below]
  | .bl _, _ => by simp [below]
  | .int _, _ => by simp [below]
  | .str _, _ => by simp [below]
  | .tup l, h => by simp only [below]; exact belowL_R n (by simpa [pureR] using h)
  | .lst l, h => by simp only [below]; exact belowL_R n (by simpa [pureR] using h)
  | .ref _, h => by simp [pureR] at h
  | .xc _ _, h => by simp [pureR] at h
  | .scr _, h => by simp [pureR] at h
  | .dic, _ => by simp [below]
theorem belowL_R (n : Nat) : ∀ {l : List Vl}, pureRL l = true → belowL n l = true
  | [], _ => by simp [belowL]
  | x :: r, h => by
    have h : pureR x = true ∧ pureRL r = true := by simpa [pureRL] using h
    simp [belowL, below_R n h.1, belowL_R n h.2]
end
theorem rd_R {w : Vl} (h : pureR w = true) (M : Mm) : rd M w = w := by cases w <;> simp_all [rd, pureR]
theorem varV_R {w : Vl} (h : pureR w = true) : varV (some w) = some w := by cases w <;> first | rfl | simp_all [pureR]
theorem belowL_iff {n : Nat} : ∀ {l : List Vl}, belowL n l = true ↔ ∀ x ∈ l, below n x = true
  | [] => by simp [belowL]
  | x :: r => by simp [belowL, belowL_iff]
mutual
theorem below_le {n m : Nat} (hn : n ≤ m) : ∀ {w : Vl}, below n w = true → below m w = true
  | .non, _ => by simp [below]
  | .bl _, _ => by simp [below]
  | .int _, _ => by simp [below]
  | .str _, _ => by simp [below]
  | .tup l, h => by simp only [below] at h ⊢; exact belowL_le hn h
  | .lst l, h => by simp only [below] at h ⊢; exact belowL_le hn h
  | .ref i, h => by simp only [below, decide_eq_true_eq] at h ⊢; omega
  | .xc _ _, h => by simp [below]
  | .scr l, h => by simp only [below] at h ⊢; exact belowL_le hn h
  | .dic, _ => by simp [below]
theorem belowL_le {n m : Nat} (hn : n ≤ m) : ∀ {l : List Vl}, belowL n l = true → belowL m l = true
  | [], _ => by simp [belowL]
  | x :: r, h => by
    have h : below n x = true ∧ belowL n r = true := by simpa [belowL] using h
    simp [belowL, below_le hn h.1, belowL_le hn h.2]
end
theorem frz_pure (n : Nat) (M : Mm) (k : Nat) {w : Vl} (h : below n w = true) : frz n M k w = w := by
  cases k with
  | zero => rfl
  | succ k => simp [frz, h]

theorem frz_map {n : Nat} {M : Mm} {k : Nat} : ∀ {ws : List Vl}, belowL n ws = true → ws.map (frz n M k) = ws
  | [], _ => rfl
  | x :: r, h => by
    have h : below n x = true ∧ belowL n r = true := by simpa [belowL] using h
    simp [frz_pure _ _ _ h.1, frz_map h.2]
theorem frz_ref {n : Nat} {M : Mm} {k i : Nat} {l : List Vl} (hi : n ≤ i) (e : M[i]? = some (.lst l)) (h : l.map (frz n M k) = l) : frz n M (k + 1) (.ref i) = .lst l := by
  have n1 : below n (.ref i) = false := by simp only [below, decide_eq_false_iff_not]; omega
  unfold frz
  simp only [n1, Bool.false_eq_true, if_false, e, h]

/-! ### memory -/
theorem get_app (M Y : Mm) (k : Nat) : (M ++ Y)[M.length + k]? = Y[k]? := by rw [List.getElem?_append_right (Nat.le_add_right _ _), Nat.add_sub_cancel_left]
theorem get_app0 (M Y : Mm) : (M ++ Y)[M.length]? = Y[0]? := by rw [List.getElem?_append_right (Nat.le_refl _), Nat.sub_self]
theorem set_app (M Y : Mm) (k : Nat) (c : Cl) : (M ++ Y).set (M.length + k) c = M ++ Y.set k c := by
  rw [List.set_append_right _ _ (Nat.le_add_right _ _), Nat.add_sub_cancel_left]
theorem set_app0 (M Y : Mm) (c : Cl) : (M ++ Y).set M.length c = M ++ Y.set 0 c := by
  rw [List.set_append_right _ _ (Nat.le_refl _), Nat.sub_self]
theorem keeps_refl (n : Nat) : ∀ (M Y : Mm), keepsOk n M (M ++ Y)
  | [], Y => by simp [keepsOk]
  | c :: r, Y => by simp only [List.cons_append, keepsOk, true_or, true_and]; exact keeps_refl n r Y
theorem keeps_app (n : Nat) : ∀ {A B : Mm} (X Y : Mm), A.length = B.length → (∀ (i : Nat) (a b : Cl), A[i]? = some a → B[i]? = some b → a = b ∨ b.below n = true) → keepsOk n (A ++ X) (B ++ (X ++ Y))
  | [], [], X, Y, _, _ => by simpa using keeps_refl n X Y
  | a :: A, b :: B, X, Y, h, g => by
    simp only [List.cons_append, keepsOk]
    exact ⟨g 0 a b rfl rfl, keeps_app n X Y (by simpa using h) fun i a b h1 h2 => g (i + 1) a b (by simpa using h1) (by simpa using h2)⟩
  | [], _ :: _, _, _, h, _ => by simp at h
  | _ :: _, [], _, _, h, _ => by simp at h

/-! ### calls -/
theorem call_of {kl : Kls} {T : Tbl} {n : Nat} {f : String} {F : Fn} {ws : List Vl} {M : Mm} (h : T f = some F) (hl : ws.length = F.np) :
    evCall kl T (n + 1) f ws M = leave F.fz M (evSs kl (evCall kl T n) F.body (startS F ws) M) := by
  simp only [evCall, h, if_pos hl]
/-- a call that changes no old cell, and tells a value without new cells -/
theorem leave_ret {M Y : Mm} {w : Vl} (h : below M.length w = true) : leave true M (.ret w (M ++ Y)) = .ok w M := by
  simp [leave, leaveV, keeps_refl, frz_pure _ _ _ h, h]
theorem leave_ret0 {M : Mm} {w : Vl} (h : below M.length w = true) : leave true M (.ret w M) = .ok w M := by
  have := leave_ret (Y := []) h
  simpa using this
theorem leave_nx {M Y : Mm} {σ : Sl} : leave true M (.nx σ (M ++ Y)) = .ok .non M := by
  have h : below M.length .non = true := by simp [below]
  simp [leave, leaveV, keeps_refl, frz_pure _ _ _ h, h]
theorem leave_nx0 {M : Mm} {σ : Sl} : leave true M (.nx σ M) = .ok .non M := by
  have := leave_nx (M := M) (Y := []) (σ := σ)
  simpa using this
theorem leave_exc {M Y : Mm} {σ : Sl} {c : String} {ws : List Vl} (h : belowL M.length ws = true) : leave true M (.exc c ws σ (M ++ Y)) = .exc c ws M := by
  simp [leave, keeps_refl, frz_map h, h]
theorem leave_exc0 {M : Mm} {σ : Sl} {c : String} {ws : List Vl} (h : belowL M.length ws = true) : leave true M (.exc c ws σ M) = .exc c ws M := by
  have := leave_exc (M := M) (Y := []) (σ := σ) (c := c) h
  simpa using this

theorem leave_ref {M Y : Mm} {k : Nat} {l : List Vl} (hk : Y[k]? = some (.lst l)) (h : belowL M.length l = true) : leave true M (.ret (.ref (M.length + k)) (M ++ Y)) = .ok (.lst l) M := by
  have e : (M ++ Y)[M.length + k]? = some (.lst l) := by rw [get_app, hk]
  have f : frz M.length (M ++ Y) frzFuel (.ref (M.length + k)) = .lst l := frz_ref (by omega) e (frz_map h)
  have b : below M.length (.lst l) = true := by simpa [below] using h
  simp only [leave, leaveV, if_true, f, keeps_refl, b, and_self, List.take_left']
theorem leave_ref0 {M Y : Mm} {l : List Vl} (h : belowL M.length l = true) : leave true M (.ret (.ref M.length) (M ++ .lst l :: Y)) = .ok (.lst l) M := leave_ref (k := 0) rfl h
/-! ### comparisons -/
theorem eqR_int (M : Mm) (i j : Int) : eqR M (.int i) (.int j) = some (decide (i = j)) := by simp [eqR, rd, pureV, dep, eqV, depLine]
theorem eqR_of {M : Mm} {a b : Vl} (ha : pureV a = true) (hb : pureV b = true) (hd : dep a ≤ depLine) : eqR M a b = some (eqV a b) := by
  have : min (dep a) (dep b) ≤ depLine := by omega
  simp [eqR, rd_pure ha, rd_pure hb, ha, hb, this]
theorem eqR_of' {M : Mm} {a b : Vl} (ha : pureV a = true) (hb : pureV b = true) (hd : dep b ≤ depLine) : eqR M a b = some (eqV a b) := by
  have : min (dep a) (dep b) ≤ depLine := by omega
  simp [eqR, rd_pure ha, rd_pure hb, ha, hb, this]
mutual
/-- no bool within -/
def noBl : Vl → Bool
  | .bl _ => false
  | .tup l => noBlL l
  | .lst l => noBlL l
  | _ => true
def noBlL : List Vl → Bool
  | [] => true
  | x :: r => noBl x && noBlL r
end
theorem noBlL_iff : ∀ {l : List Vl}, noBlL l = true ↔ ∀ x ∈ l, noBl x = true
  | [] => by simp [noBlL]
  | x :: r => by simp [noBlL, noBlL_iff]
theorem noBl_tup (l : List Vl) : noBl (.tup l) = l.all noBl := by rw [Bool.eq_iff_iff]; simp [noBl, noBlL_iff]
theorem noBl_lst (l : List Vl) : noBl (.lst l) = l.all noBl := by rw [Bool.eq_iff_iff]; simp [noBl, noBlL_iff]
mutual
theorem eqV_eq : ∀ {a b : Vl}, eqV a b = true → noBl a = true → noBl b = true → a = b
  | .non, b, h, _, _ => by cases b <;> simp_all [eqV]
  | .int i, b, h, _, hb => by cases b <;> simp_all [eqV, noBl]
  | .str s, b, h, _, _ => by cases b <;> simp_all [eqV]
  | .tup l, b, h, ha, hb => by
    cases b with
    | tup m =>
      have e : l = m := eqL_eq (by simpa [eqV] using h) (by simpa [noBl_tup] using ha) (by simpa [noBl_tup] using hb)
      rw [e]
    | _ => simp [eqV] at h
  | .lst l, b, h, ha, hb => by
    cases b with
    | lst m =>
      have e : l = m := eqL_eq (by simpa [eqV] using h) (by simpa [noBl_lst] using ha) (by simpa [noBl_lst] using hb)
      rw [e]
    | _ => simp [eqV] at h
  | .bl _, b, h, ha, _ => by simp [noBl] at ha
  | .ref _, b, h, _, _ => by cases b <;> simp [eqV] at h
  | .xc _ _, b, h, _, _ => by cases b <;> simp [eqV] at h
  | .scr _, b, h, _, _ => by cases b <;> simp [eqV] at h
theorem eqL_eq : ∀ {l m : List Vl}, eqL l m = true → (∀ x ∈ l, noBl x = true) → (∀ x ∈ m, noBl x = true) → l = m
  | [], [], _, _, _ => rfl
  | [], _ :: _, h, _, _ => by simp [eqL] at h
  | _ :: _, [], h, _, _ => by simp [eqL] at h
  | x :: r, y :: s, h, ha, hb => by
    have h : eqV x y = true ∧ eqL r s = true := by simpa [eqL] using h
    rw [eqV_eq h.1 (ha x (by simp)) (hb y (by simp)), eqL_eq h.2 (fun z hz => ha z (by simp [hz])) (fun z hz => hb z (by simp [hz]))]
end
mutual
theorem eqV_rfl : ∀ {a : Vl}, pureV a = true → eqV a a = true
  | .non, _ => rfl
  | .bl _, _ => by simp [eqV]
  | .int i, _ => by simp [eqV]
  | .str s, _ => by simp [eqV]
  | .tup l, h => by simp only [eqV]; exact eqL_rfl (by simpa [pureV] using h)
  | .lst l, h => by simp only [eqV]; exact eqL_rfl (by simpa [pureV] using h)
  | .ref _, h => by simp [pureV] at h
  | .xc _ _, h => by simp [pureV] at h
  | .scr _, h => by simp [pureV] at h
theorem eqL_rfl : ∀ {l : List Vl}, pureL l = true → eqL l l = true
  | [], _ => rfl
  | x :: r, h => by
    have h : pureV x = true ∧ pureL r = true := by simpa [pureL] using h
    simp [eqL, eqV_rfl h.1, eqL_rfl h.2]
end
theorem eqV_dec {a b : Vl} (pa : pureV a = true) (na : noBl a = true) (nb : noBl b = true) : eqV a b = decide (a = b) := by
  by_cases e : a = b
  · subst e; simp [eqV_rfl pa]
  · rw [decide_eq_false e]
    cases q : eqV a b with
    | false => rfl
    | true => exact absurd (eqV_eq q na nb) e

/-! ### loops -/
/-- what a body may do -/
def Stp (I : Sl → Mm → Prop) (Q : RS → Prop) : RS → Prop
  | .nx σ M => I σ M
  | .cnt σ M => I σ M
  | .brk σ M => Q (.nx σ M)
  | .ret w M => Q (.ret w M)
  | .exc c ws σ M => Q (.exc c ws σ M)
  | .bad => False
theorem forL_inv {bd : Vl → Sl → Mm → Option Sl} {body : Sl → Mm → RS} {g : Gd} {Q : RS → Prop} : ∀ {l : List Vl} (I : Nat → Sl → Mm → Prop) {σ : Sl} {M : Mm}, I 0 σ M → (∀ k σ M, k ≤ l.length → I k σ M → gdOk M g) →
    (∀ k (hk : k < l.length) σ M, I k σ M → ∃ σ1, bd l[k] σ M = some σ1 ∧ Stp (I (k + 1)) Q (body σ1 M)) → (∀ σ M, I l.length σ M → Q (.nx σ M)) → Q (forL bd body g l σ M)
  | [], I, σ, M, h0, hg, _, he => by
    simp only [forL, if_pos (hg 0 σ M (Nat.le_refl _) h0)]
    exact he σ M h0
  | x :: r, I, σ, M, h0, hg, hs, he => by
    obtain ⟨σ1, e1, s1⟩ := hs 0 (by simp) σ M h0
    have e1 : bd x σ M = some σ1 := e1
    simp only [forL, if_pos (hg 0 σ M (by omega) h0), e1]
    have go : ∀ σ2 M2, I 1 σ2 M2 → Q (forL bd body g r σ2 M2) := fun σ2 M2 i2 =>
      forL_inv (fun k => I (k + 1)) i2 (fun k σ M hk i => hg (k + 1) σ M (by simpa using hk) i) (fun k hk σ M i => hs (k + 1) (by simpa using hk) σ M i) (fun σ M i => he σ M i)
    cases q : body σ1 M with
    | nx σ2 M2 => rw [q] at s1; exact go σ2 M2 s1
    | cnt σ2 M2 => rw [q] at s1; exact go σ2 M2 s1
    | brk σ2 M2 => rw [q] at s1; exact s1
    | ret w M2 => rw [q] at s1; exact s1
    | exc c ws σ2 M2 => rw [q] at s1; exact s1
    | bad => rw [q] at s1; exact s1.elim
theorem whileL_inv {c : Sl → Mm → R Bool} {body : Sl → Mm → RS} {Q : RS → Prop} (I : Nat → Sl → Mm → Prop)
    (hs : ∀ m σ M, I m σ M → ∃ b M1, c σ M = .ok b M1 ∧ (b = false → Q (.nx σ M1)) ∧ (b = true → Stp (fun σ M => ∃ m', m' < m ∧ I m' σ M) Q (body σ M1))) :
    ∀ (n m : Nat) (σ : Sl) (M : Mm), I m σ M → m < n → Q (whileL c body n σ M)
  | 0, m, σ, M, _, h => by omega
  | n + 1, m, σ, M, i, h => by
    obtain ⟨b, M1, e, h1, h2⟩ := hs m σ M i
    simp only [whileL, e, R.thn_ok]
    cases b with
    | false => exact h1 rfl
    | true =>
      have s1 := h2 rfl
      have go : ∀ σ2 M2, (∃ m', m' < m ∧ I m' σ2 M2) → Q (whileL c body n σ2 M2) := fun σ2 M2 ⟨m', hm, i2⟩ => whileL_inv I hs n m' σ2 M2 i2 (by omega)
      cases q : body σ M1 with
      | nx σ2 M2 => rw [q] at s1; simp only; exact go σ2 M2 s1
      | cnt σ2 M2 => rw [q] at s1; simp only; exact go σ2 M2 s1
      | brk σ2 M2 => rw [q] at s1; exact s1
      | ret w M2 => rw [q] at s1; exact s1
      | exc c ws σ2 M2 => rw [q] at s1; exact s1
      | bad => rw [q] at s1; exact s1.elim
/-- a comprehension that changes nothing -/
theorem compL_map {α : Type} {bd : Vl → Sl → Mm → Option Sl} {c : Sl → Mm → R Bool} {el : Sl → Mm → R Vl} {g : Gd} {σ : Sl} {M : Mm} (hg : gdOk M g) (enc : α → Vl) (p : α → Bool) (f : α → Vl) : ∀ (l : List α) (acc : List Vl),
    (∀ a ∈ l, ∃ σ1, bd (enc a) σ M = some σ1 ∧ c σ1 M = .ok (p a) M ∧ (p a = true → el σ1 M = .ok (f a) M)) → acc.length + l.length ≤ PySem.sizeLine →
    compL bd c el g σ (l.map enc) acc M = .ok (acc ++ (l.filter p).map f) M
  | [], acc, _, _ => by simp [compL, hg]
  | a :: l, acc, h, hl => by
    obtain ⟨σ1, e1, e2, e3⟩ := h a (by simp)
    have ih := fun acc' (hl' : acc'.length + l.length ≤ PySem.sizeLine) => compL_map hg enc p f l acc' (fun b hb => h b (by simp [hb])) hl'
    simp only [List.length_cons] at hl
    simp only [List.map_cons, compL, if_pos hg, e1, e2]
    cases q : p a with
    | true =>
      simp only [e3 q, if_pos (show acc.length < PySem.sizeLine by omega)]
      rw [ih _ (by simp; omega)]
      simp [List.filter_cons, q]
    | false =>
      simp only
      rw [ih _ (by omega)]
      simp [List.filter_cons, q]
theorem compL_map0 {α : Type} {bd : Vl → Sl → Mm → Option Sl} {c : Sl → Mm → R Bool} {el : Sl → Mm → R Vl} {σ : Sl} {M : Mm} (enc : α → Vl) (p : α → Bool) (f : α → Vl) (l : List α) (h : ∀ a ∈ l, ∃ σ1, bd (enc a) σ M = some σ1 ∧ c σ1 M = .ok (p a) M ∧ (p a = true → el σ1 M = .ok (f a) M)) (hl : l.length ≤ PySem.sizeLine) :
    compL bd c el [] σ (l.map enc) [] M = .ok ((l.filter p).map f) M := compL_map (g := []) trivial enc p f l [] h (by simpa using hl)
/-- a comprehension that changes memory -/
theorem compL_inv {bd : Vl → Sl → Mm → Option Sl} {c : Sl → Mm → R Bool} {el : Sl → Mm → R Vl} {g : Gd} {σ : Sl} : ∀ {l acc : List Vl} (I : Nat → List Vl → Mm → Prop) {M : Mm}, I 0 acc M → (∀ k acc M, k ≤ l.length → I k acc M → gdOk M g) →
    (∀ k (hk : k < l.length) acc M, I k acc M → ∃ σ1 b M1, bd l[k] σ M = some σ1 ∧ c σ1 M = .ok b M1 ∧ (b = true → ∃ w M2, el σ1 M1 = .ok w M2 ∧ acc.length < PySem.sizeLine ∧ I (k + 1) (acc ++ [w]) M2) ∧ (b = false → I (k + 1) acc M1)) →
    ∃ ws M', compL bd c el g σ l acc M = .ok ws M' ∧ I l.length ws M'
  | [], acc, I, M, h0, hg, _ => ⟨acc, M, by simp [compL, hg 0 acc M (Nat.le_refl _) h0], h0⟩
  | x :: r, acc, I, M, h0, hg, hs => by
    obtain ⟨σ1, b, M1, e1, e2, h1, h2⟩ := hs 0 (by simp) acc M h0
    have e1 : bd x σ M = some σ1 := e1
    simp only [compL, if_pos (hg 0 acc M (by omega) h0), e1, e2]
    have go : ∀ acc2 M2, I 1 acc2 M2 → ∃ ws M', compL bd c el g σ r acc2 M2 = .ok ws M' ∧ I (x :: r).length ws M' := fun acc2 M2 i2 =>
      compL_inv (fun k => I (k + 1)) i2 (fun k acc M hk i => hg (k + 1) acc M (by simpa using hk) i) (fun k hk acc M i => hs (k + 1) (by simpa using hk) acc M i)
    cases b with
    | true =>
      obtain ⟨w, M2, e3, hl, i2⟩ := h1 rfl
      simp only [e3, if_pos hl]
      exact go _ _ i2
    | false => exact go _ _ (h2 rfl)
theorem lookK_cons (k : L2.Key) (a b : Vl) (r : List (Vl × Vl)) : lookK k ((a, b) :: r) = if keyOf a = some k then some b else lookK k r := rfl
theorem lookK_nil (k : L2.Key) : lookK k [] = none := rfl
theorem keyOf_str (s : Str) : keyOf (.str s) = some (.inr s) := rfl
theorem keyOf_int (i : Int) : keyOf (.int i) = some (.inl i) := rfl
theorem getE_zero {α : Type} (a : α) (l : List α) : (a :: l)[0]? = some a := rfl
theorem getE_succ {α : Type} (a : α) (l : List α) (n : Nat) : (a :: l)[n + 1]? = l[n]? := rfl
theorem R.of_some' {α : Type} (a : α) (m : Mm) : R.of (some a) m = .ok a m := rfl
theorem startS_def (F : Fn) (ws : List Vl) : startS F ws = ws.map some ++ List.replicate (F.nl - F.np) none := rfl

/-! ### evaluation, what is done first at first: what comes later stands where it is not looked at -/
class Kt (α β : Type) where
  run : α → Mm → R β
class Ks (α : Type) where
  run : α → Mm → RS
class Kz where
  run : Sl → Mm → RS
class Kc where
  bd : Vl → Sl → Mm → Option Sl
  c : Sl → Mm → R Bool
  el : Sl → Mm → R Vl
def bindI {α β : Type} (r : R α) [k : Kt α β] : R β := r.bind k.run
def thnI {α : Type} (r : R α) (σ : Sl) [k : Ks α] : RS := r.thn σ k.run
def sthnI (r : RS) [k : Kz] : RS := r.thn k.run
def compI (l : List Vl) (g : Gd) (σ : Sl) (M : Mm) [k : Kc] : R (List Vl) := compL k.bd k.c k.el g σ l [] M
theorem bindI_ok {α β : Type} (a : α) (m : Mm) (f : α → Mm → R β) : @bindI α β (.ok a m) ⟨f⟩ = f a m := rfl
theorem bindI_exc {α β : Type} (c : String) (ws : List Vl) (m : Mm) (f : α → Mm → R β) : @bindI α β (.exc c ws m) ⟨f⟩ = .exc c ws m := rfl
theorem bindI_bad {α β : Type} (f : α → Mm → R β) : @bindI α β .bad ⟨f⟩ = .bad := rfl
theorem thnI_ok {α : Type} (a : α) (m : Mm) (σ : Sl) (f : α → Mm → RS) : @thnI α (.ok a m) σ ⟨f⟩ = f a m := rfl
theorem thnI_exc {α : Type} (c : String) (ws : List Vl) (m : Mm) (σ : Sl) (f : α → Mm → RS) : @thnI α (.exc c ws m) σ ⟨f⟩ = .exc c ws σ m := rfl
theorem thnI_bad {α : Type} (σ : Sl) (f : α → Mm → RS) : @thnI α .bad σ ⟨f⟩ = .bad := rfl
theorem sthnI_nx (σ : Sl) (m : Mm) (f : Sl → Mm → RS) : @sthnI (.nx σ m) ⟨f⟩ = f σ m := rfl
theorem sthnI_brk (σ : Sl) (m : Mm) (f : Sl → Mm → RS) : @sthnI (.brk σ m) ⟨f⟩ = .brk σ m := rfl
theorem sthnI_cnt (σ : Sl) (m : Mm) (f : Sl → Mm → RS) : @sthnI (.cnt σ m) ⟨f⟩ = .cnt σ m := rfl
theorem sthnI_ret (w : Vl) (m : Mm) (f : Sl → Mm → RS) : @sthnI (.ret w m) ⟨f⟩ = .ret w m := rfl
theorem sthnI_exc (c : String) (ws : List Vl) (σ : Sl) (m : Mm) (f : Sl → Mm → RS) : @sthnI (.exc c ws σ m) ⟨f⟩ = .exc c ws σ m := rfl
theorem sthnI_bad (f : Sl → Mm → RS) : @sthnI .bad ⟨f⟩ = .bad := rfl
section
variable (kl : Kls) (cf : CF) (σ : Sl) (M : Mm)
theorem e_var (i : Nat) : evE kl cf (.var i) σ M = R.of (varV ((σ[i]?).bind id)) M := by rw [evE]
theorem e_cst (w : Vl) : evE kl cf (.cst w) σ M = .ok w M := by rw [evE]
theorem e_glb (x : String) (w : Vl) : evE kl cf (.glb x w) σ M = .ok w M := by rw [evE]
theorem e_tup (es : Es) : evE kl cf (.tup es) σ M = @bindI _ _ (evEs kl cf es σ M) ⟨fun ws M1 => .ok (.tup ws) M1⟩ := by rw [evE] <;> rfl
theorem e_lst (fz : Bool) (es : Es) : evE kl cf (.lst fz es) σ M = @bindI _ _ (evEs kl cf es σ M) ⟨fun ws M1 => mkL fz ws M1⟩ := by rw [evE] <;> rfl
theorem e_dic : evE kl cf .dic σ M = .ok .dic M := by rw [evE]
theorem e_dct (ks vs : Es) : evE kl cf (.dct ks vs) σ M = @bindI _ _ (evEs kl cf vs σ M) ⟨fun ws M1 => (match evKs ks with
    | some kk => if kk.length = ws.length ∧ (kk.all fun k => (keyOf k).isSome) = true then .ok (.ref M1.length) (M1 ++ [.dct (mkD (kk.zip ws))]) else .bad
    | none => .bad)⟩ := by rw [evE] <;> rfl
theorem e_bin (op : Op2) (fz : Bool) (a b : E) : evE kl cf (.bin op fz a b) σ M = @bindI _ _ (evE kl cf a σ M) ⟨fun x M1 => @bindI _ _ (evE kl cf b σ M1) ⟨fun y M2 => bin2 op fz x y M2⟩⟩ := by rw [evE] <;> rfl
theorem e_neg (a : E) : evE kl cf (.neg a) σ M = @bindI _ _ (evE kl cf a σ M) ⟨fun x M1 => (match x with | .int i => .ok (.int (-i)) M1 | _ => .bad)⟩ := by rw [evE] <;> rfl
theorem e_not (a : E) : evE kl cf (.not a) σ M = @bindI _ _ (evE kl cf a σ M) ⟨fun x M1 => R.of ((tru M1 x).map fun b => .bl (!b)) M1⟩ := by rw [evE] <;> rfl
theorem e_and (a b : E) : evE kl cf (.and a b) σ M = @bindI _ _ (evE kl cf a σ M) ⟨fun x M1 => (match tru M1 x with
    | some true => evE kl cf b σ M1
    | some false => .ok x M1
    | none => .bad)⟩ := by rw [evE] <;> rfl
theorem e_or (a b : E) : evE kl cf (.or a b) σ M = @bindI _ _ (evE kl cf a σ M) ⟨fun x M1 => (match tru M1 x with
    | some true => .ok x M1
    | some false => evE kl cf b σ M1
    | none => .bad)⟩ := by rw [evE] <;> rfl
theorem e_cmp (op : Cop) (a b : E) : evE kl cf (.cmp op a b) σ M = @bindI _ _ (evE kl cf a σ M) ⟨fun x M1 => @bindI _ _ (evE kl cf b σ M1) ⟨fun y M2 => R.of ((cmpV op x y M2).map .bl) M2⟩⟩ := by rw [evE] <;> rfl
theorem e_cmp2 (op op' : Cop) (a b c : E) : evE kl cf (.cmp2 op op' a b c) σ M = @bindI _ _ (evE kl cf a σ M) ⟨fun x M1 => @bindI _ _ (evE kl cf b σ M1) ⟨fun y M2 => (match cmpV op x y M2 with
    | some true => @bindI _ _ (evE kl cf c σ M2) ⟨fun z M3 => R.of ((cmpV op' y z M3).map .bl) M3⟩
    | some false => .ok (.bl false) M2
    | none => .bad)⟩⟩ := by rw [evE] <;> rfl
theorem e_ite (c a b : E) : evE kl cf (.ite c a b) σ M = @bindI _ _ (evE kl cf c σ M) ⟨fun x M1 => (match tru M1 x with
    | some true => evE kl cf a σ M1
    | some false => evE kl cf b σ M1
    | none => .bad)⟩ := by rw [evE] <;> rfl
theorem e_idx (a i : E) : evE kl cf (.idx a i) σ M = @bindI _ _ (evE kl cf a σ M) ⟨fun x M1 => @bindI _ _ (evE kl cf i σ M1) ⟨fun y M2 => idxV x y M2⟩⟩ := by rw [evE] <;> rfl
theorem e_sl (fz : Bool) (a : E) (lo hi : OE) : evE kl cf (.sl fz a lo hi) σ M = @bindI _ _ (evE kl cf a σ M) ⟨fun x M1 => @bindI _ _ (evOE kl cf lo σ M1) ⟨fun l M2 => @bindI _ _ (evOE kl cf hi σ M2) ⟨fun h M3 => slV fz x l h M3⟩⟩⟩ := by rw [evE] <;> rfl
theorem e_rev (fz : Bool) (a : E) : evE kl cf (.rev fz a) σ M = @bindI _ _ (evE kl cf a σ M) ⟨fun x M1 => (match rd M1 x with
    | .lst l => mkL fz l.reverse M1
    | .tup l => .ok (.tup l.reverse) M1
    | _ => .bad)⟩ := by rw [evE] <;> rfl
theorem e_comp (fz : Bool) (el : E) (tg : Tg) (src : Sr) (cs : Es) (own : List Nat) : evE kl cf (.comp fz el tg src cs own) σ M = @bindI _ _ (evSr kl cf src σ M) ⟨fun p M1 =>
    @bindI _ _ (@compI p.1 p.2 (wipeS σ own) M1 ⟨fun x σ M => bindT tg x σ M, fun σ M => evCs kl cf cs σ M, fun σ M => evE kl cf el σ M⟩) ⟨fun ws M2 => mkL fz ws M2⟩⟩ := by rw [evE] <;> rfl
theorem e_call (f : String) (es : Es) : evE kl cf (.call f es) σ M = @bindI _ _ (evEs kl cf es σ M) ⟨fun ws M1 => cf f ws M1⟩ := by rw [evE] <;> rfl
theorem e_callk (f : String) (es : Es) (ks : List Nat) (kes : Es) : evE kl cf (.callk f es ks kes) σ M = @bindI _ _ (evEs kl cf es σ M) ⟨fun ws M1 => @bindI _ _ (evEs kl cf kes σ M1) ⟨fun zs M2 =>
      cf f (ks.map fun k => (ws ++ zs).getD k .non) M2⟩⟩ := by rw [evE] <;> rfl
theorem e_bi (b : BI) (es : Es) : evE kl cf (.bi b es) σ M = @bindI _ _ (evEs kl cf es σ M) ⟨fun ws M1 => biV b ws M1⟩ := by rw [evE] <;> rfl
theorem e_src (k fz : Bool) (s : Sr) : evE kl cf (.src k fz s) σ M = @bindI _ _ (evSr kl cf s σ M) ⟨fun p M1 => if p.1.length ≤ 16777216 then (if k = true then mkL fz p.1 M1 else .ok (.tup p.1) M1) else .bad⟩ := by rw [evE] <;> rfl
theorem e_meth (m : BM) (o : E) (es : Es) : evE kl cf (.meth m o es) σ M = @bindI _ _ (evE kl cf o σ M) ⟨fun x M1 => (match seqLst M1 x with
    | some _ => @bindI _ _ (evEs kl cf es σ M1) ⟨fun ws M2 => methV m x ws M2⟩
    | none => .bad)⟩ := by rw [evE] <;> rfl
theorem e_xfld (i : Nat) (f : String) : evE kl cf (.xfld i f) σ M = (match (σ[i]?).bind id with
    | some (.xc c ws) => R.of (lookC c f ws fun c => (kl.fld c).bind id) M
    | _ => .bad) := by rw [evE] <;> rfl
theorem e_xisi (i : Nat) (d : String) : evE kl cf (.xisi i d) σ M = (match (σ[i]?).bind id with
    | some (.xc c _) => .ok (.bl (kl.sub c d)) M
    | _ => .bad) := by rw [evE] <;> rfl
theorem es_nil : evEs kl cf .nil σ M = .ok [] M := by rw [evEs]
theorem es_cons (e : E) (r : Es) : evEs kl cf (.cons e r) σ M = @bindI _ _ (evE kl cf e σ M) ⟨fun w M1 => @bindI _ _ (evEs kl cf r σ M1) ⟨fun ws M2 => .ok (w :: ws) M2⟩⟩ := by rw [evEs] <;> rfl
theorem cs_nil : evCs kl cf .nil σ M = .ok true M := by rw [evCs]
theorem cs_one (e : E) : evCs kl cf (.cons e .nil) σ M = @bindI _ _ (evE kl cf e σ M) ⟨fun x M1 => R.of (tru M1 x) M1⟩ := by rw [evCs] <;> rfl
theorem oe_no : evOE kl cf .no σ M = .ok none M := by rw [evOE]
theorem oe_so (e : E) : evOE kl cf (.so e) σ M = @bindI _ _ (evE kl cf e σ M) ⟨fun x M1 => R.of ((intOf x).map some) M1⟩ := by rw [evOE] <;> rfl
theorem sr_val (e : E) : evSr kl cf (.val e) σ M = @bindI _ _ (evE kl cf e σ M) ⟨fun x M1 => (match x with
    | .tup l => .ok (l, []) M1
    | .lst l => .ok (l, []) M1
    | .ref n => R.of ((cellL M1 n).map fun l => (l, [(n, l)])) M1
    | _ => .bad)⟩ := by rw [evSr] <;> rfl
theorem sr_enum (e : E) : evSr kl cf (.enum e) σ M = @bindI _ _ (evE kl cf e σ M) ⟨fun x M1 => (match x with
    | .tup l => .ok (enumV l, []) M1
    | .lst l => .ok (enumV l, []) M1
    | .ref n => R.of ((cellL M1 n).map fun l => (enumV l, [(n, l)])) M1
    | _ => .bad)⟩ := by rw [evSr] <;> rfl
theorem sr_zip (a b : E) : evSr kl cf (.zip a b) σ M = @bindI _ _ (evE kl cf a σ M) ⟨fun x M1 => @bindI _ _ (evE kl cf b σ M1) ⟨fun y M2 => (match x, y with
    | .tup l, .tup m => .ok (pairsV l m, []) M2
    | .lst l, .lst m => .ok (pairsV l m, []) M2
    | .lst l, .ref n => R.of ((cellL M2 n).map fun m => (pairsV l m, [(n, m)])) M2
    | .ref n, .lst m => R.of ((cellL M2 n).map fun l => (pairsV l m, [(n, l)])) M2
    | .ref n, .ref k => R.of ((cellL M2 n).bind fun l => (cellL M2 k).map fun m => (pairsV l m, [(n, l), (k, m)])) M2
    | _, _ => .bad)⟩⟩ := by rw [evSr] <;> rfl
theorem sr_rng1 (a : E) : evSr kl cf (.rng1 a) σ M = @bindI _ _ (evE kl cf a σ M) ⟨fun x M1 => (match x with
    | .int j => if rngOk j then .ok (rngV 0 j, []) M1 else .bad
    | _ => .bad)⟩ := by rw [evSr] <;> rfl
theorem sr_rng2 (a b : E) : evSr kl cf (.rng2 a b) σ M = @bindI _ _ (evE kl cf a σ M) ⟨fun x M1 => @bindI _ _ (evE kl cf b σ M1) ⟨fun y M2 => (match x, y with
    | .int i, .int j => if rngOk i ∧ rngOk j then .ok (rngV i j, []) M2 else .bad
    | _, _ => .bad)⟩⟩ := by rw [evSr] <;> rfl
theorem s_expr (e : E) : evS kl cf (.expr e) σ M = @thnI _ (evE kl cf e σ M) σ ⟨fun _ M1 => .nx σ M1⟩ := by rw [evS] <;> rfl
theorem s_set (i : Nat) (e : E) : evS kl cf (.set i e) σ M = @thnI _ (evE kl cf e σ M) σ ⟨fun w M1 => .nx (σ.set i (some w)) M1⟩ := by rw [evS] <;> rfl
theorem s_setT (l : List Nat) (e : E) : evS kl cf (.setT l e) σ M = @thnI _ (evE kl cf e σ M) σ ⟨fun w M1 => (match w with
    | .tup ws => if ws.length = l.length then .nx (setAll l ws σ) M1 else .bad
    | _ => .bad)⟩ := by rw [evS] <;> rfl
theorem s_par (l : List Nat) (es : Es) : evS kl cf (.par l es) σ M = @thnI _ (evEs kl cf es σ M) σ ⟨fun ws M1 => if ws.length = l.length then .nx (setAll l ws σ) M1 else .bad⟩ := by rw [evS] <;> rfl
theorem s_setI (o i e : E) : evS kl cf (.setI o i e) σ M = @thnI _ (evE kl cf e σ M) σ ⟨fun w M1 => @thnI _ (evE kl cf o σ M1) σ ⟨fun x M2 => @thnI _ (evE kl cf i σ M2) σ ⟨fun y M3 =>
      (match setIV x y w M3 with | some M4 => .nx σ M4 | none => .bad)⟩⟩⟩ := by rw [evS] <;> rfl
theorem s_augI (o i e : E) : evS kl cf (.augI o i e) σ M = @thnI _ (evE kl cf o σ M) σ ⟨fun x M1 => @thnI _ (evE kl cf i σ M1) σ ⟨fun y M2 => @thnI _ (augGet x y M2) σ ⟨fun v M3 =>
      @thnI _ (evE kl cf e σ M3) σ ⟨fun w M4 => (match v, w with
        | .int a, .int b => (match setIV x y (.int (a + b)) M4 with | some M5 => .nx σ M5 | none => .bad)
        | _, _ => .bad)⟩⟩⟩⟩ := by rw [evS] <;> rfl
theorem s_augN (i : Nat) (e : E) : evS kl cf (.augN i e) σ M = (match (σ[i]?).bind id with
    | some (.int a) => @thnI _ (evE kl cf e σ M) σ ⟨fun w M1 => (match w with
      | .int b => .nx (σ.set i (some (.int (a + b)))) M1
      | _ => .bad)⟩
    | _ => .bad) := by rw [evS] <;> rfl
theorem s_ret (e : E) : evS kl cf (.ret e) σ M = @thnI _ (evE kl cf e σ M) σ ⟨fun w M1 => .ret w M1⟩ := by rw [evS] <;> rfl
theorem s_retN : evS kl cf .retN σ M = .ret .non M := by rw [evS]
theorem s_ife (c : E) (a b : Ss) : evS kl cf (.ife c a b) σ M = @thnI _ (evE kl cf c σ M) σ ⟨fun x M1 => (match tru M1 x with
    | some true => evSs kl cf a σ M1
    | some false => evSs kl cf b σ M1
    | none => .bad)⟩ := by rw [evS] <;> rfl
theorem s_for (tg : Tg) (src : Sr) (b : Ss) : evS kl cf (.for_ tg src b) σ M = @thnI _ (evSr kl cf src σ M) σ ⟨fun p M1 => forL (fun x σ M => bindT tg x σ M) (fun σ M => evSs kl cf b σ M) p.2 p.1 σ M1⟩ := by rw [evS] <;> rfl
theorem s_raise (c : String) (es : Es) : evS kl cf (.raise c es) σ M = @thnI _ (evEs kl cf es σ M) σ ⟨fun ws M1 => .exc c ws σ M1⟩ := by rw [evS] <;> rfl
theorem s_try (b : Ss) (hs : Hs) : evS kl cf (.try_ b hs) σ M = (match evSs kl cf b σ M with
    | .exc c ws σ1 M1 => evHs kl cf c ws hs σ1 M1
    | r => r) := by rw [evS] <;> rfl
theorem s_pass : evS kl cf .pass σ M = .nx σ M := by rw [evS]
theorem s_brk : evS kl cf .brk σ M = .brk σ M := by rw [evS]
theorem s_cnt : evS kl cf .cnt σ M = .cnt σ M := by rw [evS]
theorem ss_nil : evSs kl cf .nil σ M = .nx σ M := by rw [evSs]
theorem ss_cons (s : S) (r : Ss) : evSs kl cf (.cons s r) σ M = @sthnI (evS kl cf s σ M) ⟨fun σ1 M1 => evSs kl cf r σ1 M1⟩ := by rw [evSs] <;> rfl
theorem hs_nil (c : String) (ws : List Vl) : evHs kl cf c ws .nil σ M = .exc c ws σ M := by rw [evHs]
theorem hs_cons (c d : String) (ws : List Vl) (i : Nat) (b : Ss) (r : Hs) : evHs kl cf c ws (.cons d (some i) b r) σ M = if kl.sub c d = true then
      (match evSs kl cf b (σ.set i (some (.xc c ws))) M with
        | .nx σ1 M1 => .nx (σ1.set i none) M1
        | .brk σ1 M1 => .brk (σ1.set i none) M1
        | .cnt σ1 M1 => .cnt (σ1.set i none) M1
        | .ret w M1 => .ret w M1
        | .exc _ _ _ _ => .bad
        | .bad => .bad)
    else evHs kl cf c ws r σ M := by rw [evHs] <;> rfl
theorem hs_none (c d : String) (ws : List Vl) (b : Ss) (r : Hs) : evHs kl cf c ws (.cons d none b r) σ M = if kl.sub c d = true then
      (match evSs kl cf b σ M with | .exc _ _ _ _ => .bad | r => r)
    else evHs kl cf c ws r σ M := by rw [evHs] <;> rfl
end
/-- a comprehension that changes nothing -/
theorem compI_map {α : Type} {bd : Vl → Sl → Mm → Option Sl} {c : Sl → Mm → R Bool} {el : Sl → Mm → R Vl} {g : Gd} {σ : Sl} {M : Mm} (hg : gdOk M g) (enc : α → Vl) (p : α → Bool) (f : α → Vl) (l : List α) (h : ∀ a ∈ l, ∃ σ1, bd (enc a) σ M = some σ1 ∧ c σ1 M = .ok (p a) M ∧ (p a = true → el σ1 M = .ok (f a) M)) (hl : l.length ≤ PySem.sizeLine) :
    @compI (l.map enc) g σ M ⟨bd, c, el⟩ = .ok ((l.filter p).map f) M := compL_map hg enc p f l [] h (by simpa using hl)
theorem compI_map0 {α : Type} {bd : Vl → Sl → Mm → Option Sl} {c : Sl → Mm → R Bool} {el : Sl → Mm → R Vl} {σ : Sl} {M : Mm} (enc : α → Vl) (p : α → Bool) (f : α → Vl) (l : List α) (h : ∀ a ∈ l, ∃ σ1, bd (enc a) σ M = some σ1 ∧ c σ1 M = .ok (p a) M ∧ (p a = true → el σ1 M = .ok (f a) M)) (hl : l.length ≤ PySem.sizeLine) :
    @compI (l.map enc) [] σ M ⟨bd, c, el⟩ = .ok ((l.filter p).map f) M := compI_map (g := []) trivial enc p f l h hl
/-- a comprehension that changes memory -/
theorem compI_inv {bd : Vl → Sl → Mm → Option Sl} {c : Sl → Mm → R Bool} {el : Sl → Mm → R Vl} {g : Gd} {σ : Sl} {l : List Vl} (I : Nat → List Vl → Mm → Prop) {M : Mm} (h0 : I 0 [] M) (hg : ∀ k acc M, k ≤ l.length → I k acc M → gdOk M g)
    (hs : ∀ k (hk : k < l.length) acc M, I k acc M → ∃ σ1 b M1, bd l[k] σ M = some σ1 ∧ c σ1 M = .ok b M1 ∧ (b = true → ∃ w M2, el σ1 M1 = .ok w M2 ∧ acc.length < PySem.sizeLine ∧ I (k + 1) (acc ++ [w]) M2) ∧ (b = false → I (k + 1) acc M1)) :
    ∃ ws M', @compI l g σ M ⟨bd, c, el⟩ = .ok ws M' ∧ I l.length ws M' := compL_inv I h0 hg hs
theorem rd_r (M : Mm) (n : Nat) : rd M (.ref n) = (match M[n]? with | some (.lst l) => .lst l | _ => .ref n) := rfl
theorem smul {i j : Int} {M : Mm} {fz : Bool} (h : smallI i ∨ smallI j) : mulV fz (.int i) (.int j) M = .ok (.int (i * j)) M := by simp [mulV, rd, h]
def eqP (a b : Vl) : Option Bool := if pureV a = true ∧ pureV b = true ∧ min (dep a) (dep b) ≤ depLine then some (eqV a b) else none
theorem eqR_P (M : Mm) (a b : Vl) : eqR M a b = eqP (rd M a) (rd M b) := rfl
theorem eqP_int (i j : Int) : eqP (.int i) (.int j) = some (decide (i = j)) := by simp [eqP, pureV, dep, eqV, depLine]
theorem pureL_nil : pureL [] = true := of_decide_eq_true (by decide)
theorem pureL_cons (x : Vl) (l : List Vl) : pureL (x :: l) = (pureV x && pureL l) := by simp [pureL]
theorem eqP_lnil {l : List Vl} (h : pureL l = true) : eqP (.lst l) (.lst []) = some l.isEmpty := by
  have d : min (dep (.lst l)) (dep (.lst [])) ≤ depLine := Nat.le_trans (Nat.min_le_right _ _) (by decide)
  rw [eqP, if_pos ⟨by simpa [pureV] using h, by decide, d⟩]
  cases l <;> simp [eqV, eqL]
theorem eqP_tnil {l : List Vl} (h : pureL l = true) : eqP (.tup l) (.tup []) = some l.isEmpty := by
  have d : min (dep (.tup l)) (dep (.tup [])) ≤ depLine := Nat.le_trans (Nat.min_le_right _ _) (by decide)
  rw [eqP, if_pos ⟨by simpa [pureV] using h, by decide, d⟩]
  cases l <;> simp [eqV, eqL]
theorem eqP_of {a b : Vl} (ha : pureV a = true) (hb : pureV b = true) (hd : dep a ≤ depLine) : eqP a b = some (eqV a b) := by
  have : min (dep a) (dep b) ≤ depLine := by omega
  simp [eqP, ha, hb, this]
def inP (x : Vl) (l : List Vl) : Option Bool := if pureV x = true ∧ pureL l = true ∧ min (depL l) (dep x) ≤ depLine then some (l.any fun y => eqV y x) else none
theorem inR_P (M : Mm) (x : Vl) (l : List Vl) : inR M x l = inP (rd M x) l := rfl
theorem pureL_ints (l : List Int) : pureL (l.map .int) = true := by simp [pureL_iff, pureV]
theorem pureL_nats (l : List Nat) : pureL (l.map fun (k : Nat) => .int k) = true := by simp [pureL_iff, pureV]
theorem inP_ints (i : Int) (l : List Int) : inP (.int i) (l.map .int) = some (decide (i ∈ l)) := by
  simp only [inP, pureL_ints, pureV, dep, depLine, Nat.zero_le, Nat.min_zero, and_self, if_true, Option.some.injEq]
  rw [Bool.eq_iff_iff]
  simp [List.any_map, Function.comp_def, eqV, List.any_eq_true]
theorem inP_nats (i : Nat) (l : List Nat) : inP (.int i) (l.map fun (k : Nat) => .int k) = some (decide (i ∈ l)) := by
  simp only [inP, pureL_nats, pureV, dep, depLine, Nat.zero_le, Nat.min_zero, and_self, if_true, Option.some.injEq]
  rw [Bool.eq_iff_iff]
  simp only [List.any_map, List.any_eq_true, Function.comp_def, eqV, decide_eq_true_eq]
  exact ⟨fun ⟨x, h, e⟩ => by rwa [← Int.ofNat.inj e], fun h => ⟨i, h, rfl⟩⟩
theorem intsOf_map : ∀ (l : List Int), intsOf (l.map .int) = some l
  | [] => rfl
  | x :: r => by simp [intsOf, intsOf_map r]
theorem rd_b1 (M : Mm) (w : Vl) : seq M w = (match rd M w with | .tup l => some l | .lst l => some l | _ => none) := rfl
theorem rd_b2 (M : Mm) (w : Vl) : seqLst M w = (match rd M w with | .lst l => some l | _ => none) := rfl
theorem place_nat (n k : Nat) : place n (k : Int) = if k < n then some k else none := by
  simp only [place, Int.natCast_nonneg, if_true, Int.toNat_natCast]
  by_cases h : k < n
  · rw [if_pos (by omega), if_pos h]
  · rw [if_neg (by omega), if_neg h]
theorem place_zero (n : Nat) : place (n + 1) 0 = some 0 := by
  have := place_nat (n + 1) 0
  simpa using this
theorem putK_def (k w : Vl) (l : List (Vl × Vl)) : putK k w l = if (l.any fun p => decide (keyOf p.1 = keyOf k)) = true then l.map (fun p => if keyOf p.1 = keyOf k then (p.1, w) else p) else l ++ [(k, w)] := rfl
theorem lt_line {n : Nat} (h : n < 1000000) : (n < PySem.sizeLine) = True := eq_true (Nat.lt_trans h (by decide))
theorem place_1 (n : Nat) : place (n + 2) 1 = some 1 := by
  have := place_nat (n + 2) 1
  simpa using this
theorem place_2 (n : Nat) : place (n + 3) 2 = some 2 := by
  have := place_nat (n + 3) 2
  simpa using this
theorem place_3 (n : Nat) : place (n + 4) 3 = some 3 := by
  have := place_nat (n + 4) 3
  simpa using this
theorem place_4 (n : Nat) : place (n + 5) 4 = some 4 := by
  have := place_nat (n + 5) 4
  simpa using this
theorem last_app {α : Type} (l : List α) (x : α) : (l ++ [x])[(l ++ [x]).length - 1]? = some x := by simp
theorem last_app' {α : Type} (l : List α) (x : α) : (l ++ [x])[l.length]? = some x := by simp
theorem enumV_map {α : Type} (f : α → Vl) (l : List α) : enumV (l.map f) = l.zipIdx.map fun p => .tup [.int p.2, f p.1] := by
  simp [enumV, List.zipIdx_map, List.map_map, Function.comp_def]
theorem rngV_nat (n : Nat) : rngV 0 (n : Int) = (List.range n).map fun (k : Nat) => .int k := by simp [rngV]
theorem rngOk_nat {n : Nat} (h : n < 1000000000) : rngOk (n : Int) := by unfold rngOk; omega
theorem smallI_nat {n : Nat} (h : n < 1000000000) : smallI (n : Int) := by unfold smallI; omega
theorem cast0 (n : Nat) : ((n : Int) = 0) = (n = 0) := by simp only [eq_iff_iff]; omega
theorem cast1 (n : Nat) : ((n : Int) = 1) = (n = 1) := by simp only [eq_iff_iff]; omega
theorem cast0' (n : Nat) : (0 ≤ (n : Int)) = True := by simp
theorem cutL_take (l : List Vl) (k : Nat) : cutL l none (some (k : Int)) = l.take k := by
  have h : ¬ (k : Int) < 0 := by omega
  simp only [cutL, cutAt, if_neg h, List.drop_zero, Int.toNat_natCast, Nat.sub_zero]
  by_cases q : k ≤ l.length
  · rw [Nat.min_eq_left q]
  · rw [Nat.min_eq_right (by omega), List.take_length, List.take_of_length_le (by omega)]
theorem cutL_drop (l : List Vl) (k : Nat) : cutL l (some (k : Int)) none = l.drop k := by
  have h : ¬ (k : Int) < 0 := by omega
  simp only [cutL, cutAt, if_neg h, Int.toNat_natCast]
  by_cases q : k ≤ l.length
  · rw [Nat.min_eq_left q, List.take_of_length_le (by simp)]
  · rw [Nat.min_eq_right (by omega), Nat.sub_self, List.take_zero, List.drop_of_length_le (by omega)]
theorem cutL_drop1 (l : List Vl) (k : Nat) : cutL l (some ((k : Int) + 1)) none = l.drop (k + 1) := cutL_drop l (k + 1)
theorem cutL_take1 (l : List Vl) (k : Nat) : cutL l none (some ((k : Int) + 1)) = l.take (k + 1) := cutL_take l (k + 1)
theorem leV_int (i j : Int) : leV (.int i) (.int j) = decide (i ≤ j) := by
  have h := congrFun (congrFun (PySem.W.dataLe_int (fun i : Int => i)) i) j
  exact h
theorem sortV_nats (l : List Nat) : sortV (l.map fun (k : Nat) => .int k) = (l.mergeSort fun a b => decide (a ≤ b)).map fun (k : Nat) => .int k := by
  unfold sortV
  rw [List.map_mergeSort]
  intro a _ b _
  rw [leV_int]
  simp
theorem canSort_nats (l : List Nat) : canSort (l.map fun (k : Nat) => .int k) := by
  refine ⟨pureL_nats l, ?_, .inr ?_, ?_⟩
  · simp only [List.all_map, List.all_eq_true, Function.comp_def]
    intro a _ b _
    simp [toD, PySem.W.alike]
  · simp [List.all_map, Function.comp_def, noTup]
  · have : ∀ l : List Nat, depL (l.map fun (k : Nat) => .int k) = 0 := fun l => by
      induction l with
      | nil => rfl
      | cons a r ih => simp [depL, dep, ih]
    rw [this]
    exact Nat.zero_le _
theorem min_nat (a b : Nat) : min (a : Int) (b : Int) = ((min a b : Nat) : Int) := by omega
theorem getD_z {α : Type} (a d : α) (l : List α) : (a :: l).getD 0 d = a := rfl
theorem getD_s {α : Type} (a d : α) (l : List α) (n : Nat) : (a :: l).getD (n + 1) d = l.getD n d := rfl
theorem last_map {α β : Type} (f : β → α) (l : List β) (x : α) : (l.map f ++ [x])[l.length]? = some x := by simp
end Sx
end

section
set_option Elab.async false
set_option linter.all false
set_option maxRecDepth 100000
/-! Sg, part 31: what laws draw from (the bag). -/
namespace Sx
open Sg
open PySem (Str PyData)
local macro_rules
| `(tactic| simp_arith [$ls,*]) => `(tactic| simp (config := { decide := false, implicitDefEqProofs := false }) only [↓e_var, ↓e_cst, ↓e_glb, ↓e_tup,
    ↓e_lst, ↓e_dct, ↓e_dic, ↓e_bin, ↓e_neg, ↓e_not, ↓e_and, ↓e_or, ↓e_cmp, ↓e_cmp2, ↓e_ite, ↓e_idx, ↓e_sl, ↓e_rev, ↓e_comp, ↓e_call, ↓e_callk, ↓e_bi,
    ↓e_src, ↓e_meth, ↓e_xfld, ↓e_xisi, ↓es_nil, ↓es_cons, ↓cs_nil, ↓cs_one, ↓oe_no, ↓oe_so, ↓sr_val, ↓sr_enum, ↓sr_zip, ↓sr_rng1, ↓sr_rng2, ↓s_expr,
    ↓s_set, ↓s_setT, ↓s_par, ↓s_setI, ↓s_augI, ↓s_augN, ↓s_ret, ↓s_retN, ↓s_ife, ↓s_for, ↓s_raise, ↓s_try, ↓s_pass, ↓s_brk, ↓s_cnt, ↓ss_nil, ↓ss_cons,
    ↓hs_nil, ↓hs_cons, ↓hs_none, evKs, bindI_ok, bindI_exc, bindI_bad, thnI_ok, thnI_exc, thnI_bad, sthnI_nx, sthnI_brk, sthnI_cnt, sthnI_ret,
    sthnI_exc, sthnI_bad, R.of_some, R.of_none, R.bind_ok, R.thn_ok, RS.thn_nx, List.getElem?_cons_zero, List.getElem?_cons_succ, List.set_cons_zero,
    List.set_cons_succ, Option.bind_some, Option.bind_none, Option.map_some, Option.map_none, id, varV_non, varV_bl, varV_int, varV_str, varV_tup,
    varV_lst, varV_ref, varV_scr, varV_dic, rd_dic, rd_non, rd_bl, rd_int, rd_str, rd_tup, rd_lst, rd_scr, seq_tup, seq_lst, seqLst_lst, tru_bl,
    tru_non, mkL_f, mkL_c, startS_def, List.map_cons, List.map_nil, List.cons_append, List.nil_append, List.replicate_succ, List.replicate_zero,
    Nat.sub_self, Nat.reduceSub, Nat.reduceAdd, bin2, addV, cmpV, eqR_P, eqP_int, inR_P, pureL_ints, pureL_nats, pureL_nil, pureL_cons, Bool.and_true,
    Bool.true_and, List.isEmpty_cons, List.isEmpty_nil, Bool.not_false, Bool.not_true, inP_ints, inP_nats, eqP_lnil, eqP_tnil, intsOf_map, rd_b1,
    rd_b2, pureV, setIV, augGet, methV, methL, setL, bindT, wipeS, List.foldr_cons, List.foldr_nil, setAll, intOf, slV, cutL_take, cutL_drop,
    cutL_drop1, cutL_take1, ordV, isNon, biV, keyOf_str, keyOf_int, lookK_cons, lookK_nil, idxV, rd_r, cellL, lt_line, getD_z, getD_s, Int.ofNat_inj,
    cast0, cast1, cast0', List.dropLast_concat, last_app, last_app', last_map, Nat.add_sub_cancel, Nat.zero_add, List.map_append, Int.ofNat_lt,
    Int.ofNat_le, Nat.reduceLT, List.zip_cons_cons, List.zip_nil_left, List.zip_nil_right, List.foldl_cons, List.foldl_nil, List.any_cons,
    List.any_nil, decide_true, decide_false, Bool.or_true, Bool.true_or, Bool.or_false, Bool.false_or, Bool.false_eq_true, place_zero, place_1,
    place_2, place_3, place_4, List.length_cons, List.length_map, List.length_append, List.length_nil, Option.some.injEq, Sum.inr.injEq, Sum.inl.injEq,
    Int.reduceLT, Int.reduceLE, true_and, and_true, and_self, List.isEmpty_map, reduceIte, reduceCtorEq, if_true, if_false, $ls,*])

theorem pop_perm {α : Type} {l : List α} {k : Nat} (h : k < l.length) : ([l[k]] ++ l.eraseIdx k).Perm l := by
  rw [List.eraseIdx_eq_take_drop_succ]
  have e : l = l.take k ++ (l[k] :: l.drop (k + 1)) := by rw [← List.drop_eq_getElem_cons h, List.take_append_drop]
  refine List.Perm.trans ?_ (List.Perm.of_eq e.symm)
  rw [List.singleton_append]
  exact List.perm_middle.symm
structure Bag where
  far : List Int
  a : Int
  c : Int
def Bag.Ok (B : Bag) : Prop := (∀ x ∈ B.far, 0 ≤ x) ∧ 0 ≤ B.a ∧ B.a < 4294967296
def kFar : Vl := .str (Str.ofString "far")
def kSt : Vl := .str (Str.ofString "stirred")
def kCt : Vl := .str (Str.ofString "count")
/-- the memory: the bag, what comes behind -/
def bgm (B : Bag) (X : Mm) : Mm := .lst (B.far.map .int) :: .dct [(kFar, .ref 0), (kSt, .int B.a), (kCt, .int B.c)] :: X
theorem bgm_len (B : Bag) (X : Mm) : (bgm B X).length = X.length + 2 := rfl
theorem bgm_app (B : Bag) (X Y : Mm) : bgm B X ++ Y = bgm B (X ++ Y) := rfl
theorem bgm_get0 (B : Bag) (X Y : Mm) : (bgm B (X ++ Y))[X.length + 2]? = Y[0]? := get_app0 (bgm B X) Y
theorem bgm_get1 (B : Bag) (X Y : Mm) : (bgm B (X ++ Y))[X.length + 3]? = Y[1]? := get_app (bgm B X) Y 1
theorem bgm_get2 (B : Bag) (X Y : Mm) : (bgm B (X ++ Y))[X.length + 4]? = Y[2]? := get_app (bgm B X) Y 2
theorem bgm_set0 (B : Bag) (X Y : Mm) (c : Cl) : (bgm B (X ++ Y)).set (X.length + 2) c = bgm B (X ++ Y.set 0 c) := set_app0 (bgm B X) Y c
theorem bgm_set1 (B : Bag) (X Y : Mm) (c : Cl) : (bgm B (X ++ Y)).set (X.length + 3) c = bgm B (X ++ Y.set 1 c) := set_app (bgm B X) Y 1 c
theorem bgm_set2 (B : Bag) (X Y : Mm) (c : Cl) : (bgm B (X ++ Y)).set (X.length + 4) c = bgm B (X ++ Y.set 2 c) := set_app (bgm B X) Y 2 c
local macro_rules
  | `(tactic| simp_all_arith [$ls,*]) => `(tactic| simp_arith [bgm_len, bgm_app, bgm_get0, bgm_get1, bgm_get2, bgm_set0, bgm_set1, bgm_set2, List.append_assoc, Nat.add_assoc, $ls,*])
theorem leave_bgm {B B' : Bag} {X Y : Mm} {w : Vl} (h : below (X.length + 2) w = true) : leave true (bgm B X) (.ret w (bgm B' (X ++ Y))) = .ok w (bgm B' X) := by
  have k : keepsOk (X.length + 2) (bgm B X) (bgm B' (X ++ Y)) := by
    refine keeps_app (X.length + 2) (A := [_, _]) (B := [_, _]) X Y rfl fun i a b h1 h2 => .inr ?_
    match i with
    | 0 =>
      simp only [List.getElem?_cons_zero, Option.some.injEq] at h2
      subst h2
      simp only [Cl.below]
      exact belowL_pure _ (pureL_ints _)
    | 1 =>
      simp only [List.getElem?_cons_succ, List.getElem?_cons_zero, Option.some.injEq] at h2
      subst h2
      simp [Cl.below, below, kFar, kSt, kCt]
    | i + 2 => simp at h2
  have t : (bgm B' (X ++ Y)).take (X.length + 2) = bgm B' X := by simp [bgm]
  simp only [leave, leaveV, if_true, bgm_len, frz_pure _ _ _ h, h, k, and_self, t]
theorem leave_bgm_ref {B B' : Bag} {X Y : Mm} {k : Nat} {l : List Vl} (hk : Y[k]? = some (.lst l)) (h : belowL (X.length + 2) l = true) : leave true (bgm B X) (.ret (.ref (X.length + (k + 2))) (bgm B' (X ++ Y))) = .ok (.lst l) (bgm B' X) := by
  have e : (bgm B' (X ++ Y))[X.length + (k + 2)]? = some (.lst l) := by
    have := get_app (bgm B' X) Y k
    rw [bgm_app, bgm_len, hk] at this
    rwa [show X.length + (k + 2) = X.length + 2 + k by omega]
  have f : frz (X.length + 2) (bgm B' (X ++ Y)) frzFuel (.ref (X.length + (k + 2))) = .lst l := frz_ref (by omega) e (frz_map h)
  have g := leave_bgm (B := B) (B' := B') (X := X) (Y := Y) (w := .lst l) (by simpa [below] using h)
  have b : below (X.length + 2) (.lst l) = true := by simpa [below] using h
  simp only [leave, leaveV, if_true, bgm_len, frz_pure _ _ _ b] at g
  simp only [leave, leaveV, if_true, bgm_len, f]
  exact g
theorem leave_bgm0 {B B' : Bag} {X : Mm} {w : Vl} (h : below (X.length + 2) w = true) : leave true (bgm B X) (.ret w (bgm B' X)) = .ok w (bgm B' X) := by
  have := leave_bgm (B := B) (B' := B') (X := X) (Y := []) h
  rwa [List.append_nil] at this
def f__law_bag_c1 : E := (.comp false (.var 3) (.nm 3) (.val (.var 1)) (.cons (.cmp .gt (.var 3) (.bin .pow true (.cst (.int 10)) (.cst (.int 15)))) .nil) [3])
def f__law_bag_b1 : Ss := (.cons (.set 2 (.bin .mod true (.bi .int (.cons (.bin .add true (.bin .add true (.bin .mul true (.var 2) (.cst (.int 48271))) (.var 3)) (.cst (.int 7))) .nil)) (.cst (.int 4294967291)))) .nil)
def f__law_bag_l1 : S := (.for_ (.nm 3) (.val (.var 1)) f__law_bag_b1)
def f__law_bag_c2 : E := (.comp true (.bin .add true (.bin .mul true (.cst (.int 2)) (.bi .abs (.cons (.var 3) .nil))) (.bi .int (.cons (.cmp .lt (.var 3) (.cst (.int 0))) .nil))) (.nm 3) (.val (.sl true (.var 0) .no (.so (.cst (.int 63))))) .nil [3])
def f__law_bag : Fn := { np := 1, nl := 4, fz := false, body := (.cons (.par [1, 2] (.cons f__law_bag_c2 (.cons (.bin .add true (.cst (.int 15722)) (.bin .mul true (.cst (.int 11)) (.bi .len (.cons (.var 0) .nil)))) .nil))) (.cons f__law_bag_l1 (.cons (.ret (.dct (.cons (.cst (.str (PySem.Str.ofString "far"))) (.cons (.cst (.str (PySem.Str.ofString "stirred"))) (.cons (.cst (.str (PySem.Str.ofString "count"))) .nil))) (.cons f__law_bag_c1 (.cons (.var 2) (.cons (.cst (.int 0)) .nil))))) .nil))) }
def f__law_draw : Fn := { np := 2, nl := 5, fz := true, body := (.cons (.set 2 (.idx (.var 0) (.cst (.str (PySem.Str.ofString "far"))))) (.cons (.ife (.cmp .ne (.var 2) (.lst true .nil)) (.cons (.set 3 (.idx (.var 2) (.cst (.int 0)))) (.cons (.setI (.var 2) (.cst (.int 0)) (.bin .fdiv true (.var 3) (.var 1))) (.cons (.ife (.cmp .lt (.var 3) (.var 1)) (.cons (.expr (.meth .popAt (.var 2) (.cons (.cst (.int 0)) .nil))) .nil) .nil) (.cons (.ret (.bin .mod true (.bi .int (.cons (.var 3) .nil)) (.var 1))) .nil)))) .nil) (.cons (.setI (.var 0) (.cst (.str (PySem.Str.ofString "count"))) (.bin .add true (.idx (.var 0) (.cst (.str (PySem.Str.ofString "count")))) (.cst (.int 1)))) (.cons (.set 4 (.bin .mod true (.bi .int (.cons (.bin .add true (.idx (.var 0) (.cst (.str (PySem.Str.ofString "stirred")))) (.bin .mul true (.cst (.int 2654435761)) (.idx (.var 0) (.cst (.str (PySem.Str.ofString "count")))))) .nil)) (.cst (.int 4294967291)))) (.cons (.set 4 (.bin .mod true (.bi .int (.cons (.bin .add true (.bin .add true (.bin .mul true (.var 4) (.var 4)) (.bin .mul true (.cst (.int 40503)) (.idx (.var 0) (.cst (.str (PySem.Str.ofString "count")))))) (.cst (.int 3))) .nil)) (.cst (.int 4294967279)))) (.cons (.set 4 (.bin .mod true (.bi .int (.cons (.bin .add true (.bin .mul true (.var 4) (.var 4)) (.idx (.var 0) (.cst (.str (PySem.Str.ofString "stirred"))))) .nil)) (.cst (.int 4294967231)))) (.cons (.ret (.bin .mod true (.bi .int (.cons (.bin .fdiv true (.var 4) (.cst (.int 512))) .nil)) (.var 1))) .nil))))))) }
def f__law_pick : Fn := { np := 2, nl := 2, fz := true, body := (.cons (.ret (.idx (.var 1) (.call "_law_draw" (.cons (.var 0) (.cons (.bi .len (.cons (.var 1) .nil)) .nil))))) .nil) }
def f__law_mixed_b1 : Ss := (.cons (.expr (.meth .append (.var 3) (.cons (.meth .popAt (.var 2) (.cons (.call "_law_draw" (.cons (.var 0) (.cons (.bi .len (.cons (.var 2) .nil)) .nil))) .nil)) .nil))) .nil)
def f__law_mixed_l1 : S := (.while_ (.cmp .ne (.var 2) (.lst true .nil)) f__law_mixed_b1)
def f__law_mixed : Fn := { np := 2, nl := 4, fz := true, body := (.cons (.par [2, 3] (.cons (.bi (.list false) (.cons (.var 1) .nil)) (.cons (.lst false .nil) .nil))) (.cons f__law_mixed_l1 (.cons (.ret (.var 3)) .nil))) }
def f__law_net_c1 : E := (.comp true (.call "_law_pick" (.cons (.var 0) (.cons (.lst true (.cons (.cst (.int 1)) (.cons (.cst (.int 1)) (.cons (.cst (.int 2)) (.cons (.cst (.int 2)) (.cons (.cst (.int 3)) .nil)))))) .nil))) (.nm 7) (.rng1 (.var 1)) .nil [7])
def f__law_net_b1 : Ss := (.cons (.set 6 (.idx (.lst true (.cons (.cmp .eq (.bi .abs (.cons (.bin .sub true (.var 4) (.var 5)) .nil)) (.cst (.int 1))) (.cons (.cmp .eq (.var 5) (.bin .mod true (.bi .int (.cons (.bin .add true (.var 4) (.cst (.int 1))) .nil)) (.var 1))) (.cons (.cmp .eq (.bin .mul true (.var 4) (.var 5)) (.cst (.int 0))) (.cons (.cst (.bl false)) (.cons (.cmp .eq (.var 5) (.bin .mod true (.bi .int (.cons (.bin .add true (.var 4) (.cst (.int 1))) .nil)) (.var 1))) .nil)))))) (.var 2))) (.cons (.ife (.and (.cmp .ne (.var 4) (.var 5)) (.or (.var 6) (.cmp .eq (.call "_law_draw" (.cons (.var 0) (.cons (.idx (.lst true (.cons (.cst (.int 9)) (.cons (.cst (.int 9)) (.cons (.cst (.int 9)) (.cons (.cst (.int 2)) (.cons (.cst (.int 4)) .nil)))))) (.var 2)) .nil))) (.cst (.int 0))))) (.cons (.expr (.meth .append (.var 3) (.cons (.tup (.cons (.var 4) (.cons (.var 5) .nil))) .nil))) .nil) .nil) .nil))
def f__law_net_l1 : S := (.for_ (.nm 5) (.rng1 (.var 1)) f__law_net_b1)
def f__law_net_b2 : Ss := (.cons f__law_net_l1 .nil)
def f__law_net_l2 : S := (.for_ (.nm 4) (.rng1 (.var 1)) f__law_net_b2)
def f__law_net : Fn := { np := 2, nl := 8, fz := true, body := (.cons (.par [2, 3] (.cons (.call "_law_draw" (.cons (.var 0) (.cons (.cst (.int 5)) .nil))) (.cons (.lst false .nil) .nil))) (.cons f__law_net_l2 (.cons (.ret (.tup (.cons (.bi .tuple (.cons f__law_net_c1 .nil)) (.cons (.bi .tuple (.cons (.var 3) .nil)) .nil)))) .nil))) }
def f__law_has_round_b1 : Ss := (.cons (.ife (.and (.cmp .eq (.var 6) (.var 5)) (.cmp .eq (.var 7) (.var 1))) (.cons (.ret (.cst (.bl true))) .nil) .nil) (.cons (.ife (.and (.cmp .eq (.var 6) (.var 5)) (.and (.cmp .ne (.var 7) (.var 2)) (.cmp .nin (.var 7) (.var 3)))) (.cons (.expr (.meth .append (.var 3) (.cons (.var 7) .nil))) (.cons (.expr (.meth .append (.var 4) (.cons (.var 7) .nil))) .nil)) .nil) .nil))
def f__law_has_round_l1 : S := (.for_ (.tp [6, 7]) (.val (.idx (.var 0) (.cst (.int 1)))) f__law_has_round_b1)
def f__law_has_round_b2 : Ss := (.cons (.set 5 (.meth .pop (.var 4) .nil)) (.cons f__law_has_round_l1 .nil))
def f__law_has_round_l2 : S := (.while_ (.cmp .ne (.var 4) (.lst true .nil)) f__law_has_round_b2)
def f__law_has_round : Fn := { np := 3, nl := 8, fz := true, body := (.cons (.par [3, 4] (.cons (.lst false .nil) (.cons (.lst false (.cons (.var 1) .nil)) .nil))) (.cons f__law_has_round_l2 (.cons (.ret (.cst (.bl false))) .nil))) }
def f__law_bare_c1 : E := (.comp true (.var 5) (.nm 5) (.val (.var 4)) (.cons (.not (.call "_law_has_round" (.cons (.var 0) (.cons (.var 2) (.cons (.var 5) .nil))))) .nil) [5])
def f__law_bare_c2 : E := (.comp true (.var 5) (.nm 5) (.rng1 (.bi .len (.cons (.idx (.var 0) (.cst (.int 0))) .nil))) (.cons (.cmp .ne (.var 5) (.var 2)) .nil) [5])
def f__law_bare_b1 : Ss := (.cons (.ife (.and (.cmp .eq (.var 3) (.cst (.int 1))) (.call "_law_has_round" (.cons (.var 0) (.cons (.var 2) (.cons (.neg (.cst (.int 1))) .nil))))) (.cons (.set 4 f__law_bare_c2) (.cons (.ife (.cmp .eq f__law_bare_c1 (.lst true .nil)) (.cons (.expr (.meth .append (.var 1) (.cons (.var 2) .nil))) .nil) .nil) .nil)) .nil) .nil)
def f__law_bare_l1 : S := (.for_ (.tp [2, 3]) (.enum (.idx (.var 0) (.cst (.int 0)))) f__law_bare_b1)
def f__law_bare : Fn := { np := 1, nl := 6, fz := true, body := (.cons (.set 1 (.lst false .nil)) (.cons f__law_bare_l1 (.cons (.ret (.var 1)) .nil))) }
def f__law_gated_c1 : E := (.comp true (.bin .add true (.var 5) (.bi .int (.cons (.cmp .in_ (.var 4) (.var 3)) .nil))) (.tp [4, 5]) (.enum (.idx (.var 2) (.cst (.int 0)))) .nil [4, 5])
def f__law_gated : Fn := { np := 2, nl := 6, fz := true, body := (.cons (.set 2 (.call "_law_net" (.cons (.var 0) (.cons (.var 1) .nil)))) (.cons (.set 3 (.call "_law_bare" (.cons (.var 2) .nil))) (.cons (.ret (.tup (.cons (.bi .tuple (.cons f__law_gated_c1 .nil)) (.cons (.idx (.var 2) (.cst (.int 1))) .nil)))) .nil))) }
def f__law_way_i1 : S := (.ife (.and (.cmp .gt (.var 8) (.cst (.int 1))) (.cmp .eq (.call "_law_draw" (.cons (.var 0) (.cons (.cst (.int 3)) .nil))) (.cst (.int 0)))) (.cons (.set 10 (.bin .sub true (.var 10) (.cst (.int 1)))) .nil) .nil)
def f__law_way_b1 : Ss := (.cons f__law_way_i1 (.cons (.expr (.meth .append (.var 9) (.cons (.call "_law_way" (.cons (.var 0) (.cons (.var 1) (.cons (.var 11) (.cons (.var 10) (.cons (.bin .sub true (.var 4) (.bi .int (.cons (.cmp .gt (.var 8) (.cst (.int 1))) .nil))) .nil)))))) .nil))) .nil))
def f__law_way_l1 : S := (.for_ (.nm 11) (.val (.bi (.sorted true) (.cons (.sl true (.call "_law_mixed" (.cons (.var 0) (.cons (.var 5) .nil))) .no (.so (.var 8))) .nil))) f__law_way_b1)
def f__law_way_i2 : S := (.ife (.and (.cmp .gt (.var 4) (.cst (.int 0))) (.cmp .eq (.call "_law_draw" (.cons (.var 0) (.cons (.cst (.int 3)) .nil))) (.cst (.int 0)))) (.cons (.set 8 (.bin .add true (.cst (.int 2)) (.call "_law_draw" (.cons (.var 0) (.cons (.cst (.int 2)) .nil))))) .nil) .nil)
def f__law_way_c1 : E := (.comp true (.var 7) (.tp [6, 7]) (.val (.idx (.var 1) (.cst (.int 1)))) (.cons (.cmp .eq (.var 6) (.var 2)) .nil) [6, 7])
def f__law_way : Fn := { np := 5, nl := 12, fz := true, body := (.cons (.set 5 f__law_way_c1) (.cons (.ife (.or (.cmp .lt (.var 3) (.cst (.int 1))) (.cmp .eq (.var 5) (.lst true .nil))) (.cons (.ret (.tup (.cons (.var 2) (.cons (.tup .nil) .nil)))) .nil) .nil) (.cons (.set 8 (.cst (.int 1))) (.cons f__law_way_i2 (.cons (.par [9, 10] (.cons (.lst false .nil) (.cons (.bin .sub true (.var 3) (.cst (.int 1))) .nil))) (.cons f__law_way_l1 (.cons (.ret (.tup (.cons (.var 2) (.cons (.bi .tuple (.cons (.var 9) .nil)) .nil)))) .nil))))))) }
def f__law_counts_b1 : Ss := (.cons (.ife (.cmp .nisn (.var 4) (.cst .non)) (.cons (.setI (.var 2) (.idx (.var 4) (.cst (.int 0))) (.bin .add true (.idx (.var 2) (.idx (.var 4) (.cst (.int 0)))) (.cst (.int 1)))) .nil) .nil) .nil)
def f__law_counts_l1 : S := (.for_ (.nm 4) (.val (.var 1)) f__law_counts_b1)
def f__law_counts_c1 : E := (.comp false (.cst (.int 0)) (.nm 3) (.val (.idx (.var 0) (.cst (.int 0)))) .nil [3])
def f__law_counts : Fn := { np := 2, nl := 5, fz := true, body := (.cons (.set 2 f__law_counts_c1) (.cons f__law_counts_l1 (.cons (.ret (.var 2)) .nil))) }
def f__law_standing_b1 : Ss := (.cons (.expr (.meth .insert (.var 6) (.cons (.call "_law_draw" (.cons (.var 0) (.cons (.bin .add true (.bi .len (.cons (.var 6) .nil)) (.cst (.int 1))) .nil))) (.cons (.cst .non) .nil)))) .nil)
def f__law_standing_l1 : S := (.for_ (.nm 7) (.rng1 (.call "_law_draw" (.cons (.var 0) (.cons (.cst (.int 3)) .nil)))) f__law_standing_b1)
def f__law_standing_b2 : Ss := (.cons (.expr (.meth .append (.var 6) (.cons (.call "_law_way" (.cons (.var 0) (.cons (.var 1) (.cons (.var 4) (.cons (.call "_law_pick" (.cons (.var 0) (.cons (.lst true (.cons (.cst (.int 0)) (.cons (.cst (.int 1)) (.cons (.cst (.int 1)) (.cons (.cst (.int 2)) (.cons (.cst (.int 2)) (.cons (.cst (.int 3)) (.cons (.cst (.int 4)) .nil)))))))) .nil))) (.cons (.cst (.int 1)) .nil)))))) .nil))) .nil)
def f__law_standing_l2 : S := (.for_ (.nm 4) (.val (.sl true (.call "_law_mixed" (.cons (.var 0) (.cons (.var 3) .nil))) .no (.so (.var 2)))) f__law_standing_b2)
def f__law_standing_b3 : Ss := (.cons (.set 3 (.bin .add true (.var 3) (.bin .mul true (.lst true (.cons (.var 4) .nil)) (.ite (.cmp .gt (.call "_law_draw" (.cons (.var 0) (.cons (.cst (.int 4)) .nil))) (.cst (.int 0))) (.var 5) (.call "_law_draw" (.cons (.var 0) (.cons (.bin .add true (.var 5) (.cst (.int 1))) .nil))))))) .nil)
def f__law_standing_l3 : S := (.for_ (.tp [4, 5]) (.enum (.idx (.var 1) (.cst (.int 0)))) f__law_standing_b3)
def f__law_standing : Fn := { np := 3, nl := 8, fz := true, body := (.cons (.set 3 (.lst true .nil)) (.cons f__law_standing_l3 (.cons (.set 6 (.lst false .nil)) (.cons f__law_standing_l2 (.cons f__law_standing_l1 (.cons (.ret (.bi .tuple (.cons (.var 6) .nil))) .nil)))))) }
section
variable (kl : Kls) {T : Tbl} (tD : T "_law_draw" = some f__law_draw)
include tD
theorem draw_ok (n : Nat) (B : Bag) (hB : B.Ok) (X : Mm) (m : Int) (hm : 0 < m) (hm2 : m < 1000000) :
    ∃ (k : Int) (B' : Bag), B'.Ok ∧ 0 ≤ k ∧ k < m ∧ evCall kl T (n + 1) "_law_draw" [.ref 1, .int m] (bgm B X) = .ok (.int k) (bgm B' X) := by
  rw [call_of tD rfl]
  simp only [f__law_draw]
  have k1 : (Str.ofString "far" = Str.ofString "count") = False := by decide +kernel
  have k2 : (Str.ofString "far" = Str.ofString "stirred") = False := by decide +kernel
  have k3 : (Str.ofString "stirred" = Str.ofString "count") = False := by decide +kernel
  have k4 : (Str.ofString "count" = Str.ofString "stirred") = False := by decide +kernel
  have hm3 : m < 1073741824 := by omega
  have fin : ∀ (k : Int) (B' : Bag), leave true (bgm B X) (.ret (.int k) (bgm B' X)) = .ok (.int k) (bgm B' X) := fun k B' => leave_bgm0 (by simp [below])
  cases hf : B.far with
  | nil =>
    have b1 : smallI ((B.a + 2654435761 * (B.c + 1)) % 4294967291) := by unfold smallI; omega
    have b2 : smallI (((B.a + 2654435761 * (B.c + 1)) % 4294967291 * ((B.a + 2654435761 * (B.c + 1)) % 4294967291) + 40503 * (B.c + 1) + 3) % 4294967279) := by unfold smallI; omega
    have s1 : smallI 2654435761 := by decide
    have s2 : smallI 40503 := by decide
    refine ⟨((((B.a + 2654435761 * (B.c + 1)) % 4294967291 * ((B.a + 2654435761 * (B.c + 1)) % 4294967291) + 40503 * (B.c + 1) + 3) % 4294967279 * (((B.a + 2654435761 * (B.c + 1)) % 4294967291 * ((B.a + 2654435761 * (B.c + 1)) % 4294967291) + 40503 * (B.c + 1) + 3) % 4294967279) + B.a) % 4294967231) / 512 % m, ⟨[], B.a, B.c + 1⟩, ⟨by simp, hB.2.1, hB.2.2⟩, ?_, ?_, ?_⟩
    rotate_left 2
    · refine Eq.trans (congrArg _ ?_) (fin _ ⟨[], B.a, B.c + 1⟩)
      unfold bgm
      rw [hf]
      simp_arith [kFar, kSt, kCt, k1, k2, k3, k4, putK_def, smul (Or.inl s1), smul (Or.inl s2), hm, smul (Or.inl b1), smul (Or.inl b2)]
    · exact Int.emod_nonneg _ (by omega)
    · exact Int.emod_lt_of_pos _ hm
  | cons x r =>
    have hx0 : 0 ≤ x := hB.1 x (by simp [hf])
    have hr : ∀ y ∈ r, 0 ≤ y := fun y hy => hB.1 y (by simp [hf, hy])
    have e : ∃ B' : Bag, B'.Ok ∧ evCall kl T (n + 1) "_law_draw" [.ref 1, .int m] (bgm B X) = .ok (.int (x % m)) (bgm B' X) := by
      rw [call_of tD rfl]
      simp only [f__law_draw]
      by_cases hx : x < m
      · refine ⟨⟨r, B.a, B.c⟩, ⟨hr, hB.2.1, hB.2.2⟩, Eq.trans (congrArg _ ?_) (fin _ ⟨r, B.a, B.c⟩)⟩
        unfold bgm
        rw [hf]
        simp_arith [kFar, kSt, kCt, k1, k2, k3, k4, hm, hm3, hx, List.eraseIdx_zero, List.tail_cons]
      · refine ⟨⟨x / m :: r, B.a, B.c⟩, ⟨?_, hB.2.1, hB.2.2⟩, Eq.trans (congrArg _ ?_) (fin _ ⟨x / m :: r, B.a, B.c⟩)⟩
        · intro y hy
          rcases List.mem_cons.mp hy with rfl | hy
          · exact Int.ediv_nonneg hx0 (by omega)
          · exact hr y hy
        unfold bgm
        rw [hf]
        simp_arith [kFar, kSt, kCt, k1, k2, k3, k4, hm, hm3, hx]
    obtain ⟨B', h1, h2⟩ := e
    rw [call_of tD rfl] at h2
    simp only [f__law_draw] at h2
    exact ⟨_, B', h1, Int.emod_nonneg _ (by omega), Int.emod_lt_of_pos _ hm, h2⟩
theorem draw_n (n : Nat) (B : Bag) (hB : B.Ok) (X : Mm) (m : Int) (hm : 0 < m) (hm2 : m < 1000000) :
    ∃ (k : Nat) (B' : Bag), B'.Ok ∧ (k : Int) < m ∧ evCall kl T (n + 1) "_law_draw" [.ref 1, .int m] (bgm B X) = .ok (.int k) (bgm B' X) := by
  obtain ⟨k, B', h1, h2, h3, e⟩ := draw_ok kl tD n B hB X m hm hm2
  obtain ⟨j, rfl⟩ := Int.eq_ofNat_of_zero_le h2
  exact ⟨j, B', h1, h3, e⟩
theorem pickR_ok (tP : T "_law_pick" = some f__law_pick) (n : Nat) (B : Bag) (hB : B.Ok) (X : Mm) (l : List Vl) (hp : pureRL l = true) (h0 : l ≠ []) (hl : l.length < 1000000) :
    ∃ (v : Vl) (B' : Bag), B'.Ok ∧ v ∈ l ∧ evCall kl T (n + 2) "_law_pick" [.ref 1, .lst l] (bgm B X) = .ok v (bgm B' X) := by
  have h1 : 0 < l.length := List.length_pos_iff.mpr h0
  obtain ⟨k, B', h2, h3, e⟩ := draw_n kl tD n B hB X l.length (by omega) (by omega)
  have hk : k < l.length := by omega
  refine ⟨l[k], B', h2, List.getElem_mem _, ?_⟩
  have hg : l[k]? = some l[k] := List.getElem?_eq_getElem hk
  rw [call_of tP rfl]
  simp only [f__law_pick]
  simp_arith [e, place_nat, hk, hg]
  exact leave_bgm0 (below_R _ (pureRL_iff.mp hp _ (List.getElem_mem _)))
theorem pick_ok (tP : T "_law_pick" = some f__law_pick) (n : Nat) (B : Bag) (hB : B.Ok) (X : Mm) (l : List Vl) (hp : pureL l = true) (h0 : l ≠ []) (hl : l.length < 1000000) :
    ∃ (v : Vl) (B' : Bag), B'.Ok ∧ v ∈ l ∧ evCall kl T (n + 2) "_law_pick" [.ref 1, .lst l] (bgm B X) = .ok v (bgm B' X) := pickR_ok kl tD tP n B hB X l (pureL_R hp) h0 hl
theorem mixed_ok (tM : T "_law_mixed" = some f__law_mixed) (n : Nat) (B : Bag) (hB : B.Ok) (X : Mm) (l : List Vl) (hp : pureL l = true) (hl : l.length < 1000000) :
    ∃ (l' : List Vl) (B' : Bag), B'.Ok ∧ l'.Perm l ∧ evCall kl T (n + 2) "_law_mixed" [.ref 1, .lst l] (bgm B X) = .ok (.lst l') (bgm B' X) := by
  have loop : ∃ (found : List Vl) (B' : Bag), B'.Ok ∧ found.Perm l ∧
      evS kl (evCall kl T (n + 1)) f__law_mixed_l1 [some (.ref 1), some (.lst l), some (.ref (X.length + 2)), some (.ref (X.length + 3))] (bgm B (X ++ [.lst l, .lst []])) =
        .nx [some (.ref 1), some (.lst l), some (.ref (X.length + 2)), some (.ref (X.length + 3))] (bgm B' (X ++ [.lst [], .lst found])) := by
    simp only [f__law_mixed_l1, evS]
    refine whileL_inv (Q := fun r => ∃ (found : List Vl) (B' : Bag), B'.Ok ∧ found.Perm l ∧ r = .nx [some (.ref 1), some (.lst l), some (.ref (X.length + 2)), some (.ref (X.length + 3))] (bgm B' (X ++ [.lst [], .lst found])))
      (fun m σ M => ∃ (left found : List Vl) (B' : Bag), B'.Ok ∧ (found ++ left).Perm l ∧ m = left.length ∧ σ = [some (.ref 1), some (.lst l), some (.ref (X.length + 2)), some (.ref (X.length + 3))] ∧ M = bgm B' (X ++ [.lst left, .lst found]))
      ?_ wFuel l.length _ _ ⟨l, [], B, hB, .refl _, rfl, rfl, rfl⟩ (by unfold wFuel; omega)
    rintro m σ M ⟨left, found, B', hB', hpm, rfl, rfl, rfl⟩
    have pl : pureL left = true := pureL_iff.mpr fun x hx => pureL_iff.mp hp x (hpm.subset (by simp [hx]))
    have len := hpm.length_eq
    rw [List.length_append] at len
    cases left with
    | nil =>
      refine ⟨false, bgm B' (X ++ [.lst [], .lst found]), by simp_all_arith [], fun _ => ⟨found, B', hB', by simpa using hpm, rfl⟩, fun h => by cases h⟩
    | cons x r =>
      rw [List.length_cons] at len
      refine ⟨true, bgm B' (X ++ [.lst (x :: r), .lst found]), by simp_all_arith [pl], fun h => (by cases h), fun _ => ?_⟩
      obtain ⟨k, B2, h2, h3, e⟩ := draw_n kl tD n B' hB' (X ++ [.lst (x :: r), .lst found]) (r.length + 1 : Nat) (by omega) (by omega)
      have hk : k < r.length + 1 := by omega
      have hg : (x :: r)[k]? = some ((x :: r)[k]'(by simpa using hk)) := List.getElem?_eq_getElem (by simpa using hk)
      have hf : found.length < PySem.sizeLine := Nat.lt_of_lt_of_le (show found.length < 1000000 by omega) (by decide)
      simp only [f__law_mixed_b1]
      simp_all_arith [e, place_nat, hk, hg, hf]
      refine ⟨r.length, by omega, (x :: r).eraseIdx k, found ++ [(x :: r)[k]'(by simpa using hk)], B2, h2, ?_, ?_, rfl, rfl⟩
      · refine List.Perm.trans ?_ hpm
        rw [List.append_assoc]
        refine List.Perm.append_left _ ?_
        exact pop_perm (by simpa using hk)
      · rw [List.length_eraseIdx]
        simp [hk]
  obtain ⟨found, B', h1, h2, e⟩ := loop
  refine ⟨found, B', h1, h2, ?_⟩
  rw [call_of tM rfl]
  simp only [f__law_mixed]
  simp_all_arith [e]
  exact leave_bgm_ref (k := 1) rfl (belowL_pure _ (pureL_iff.mpr fun x hx => pureL_iff.mp hp x (h2.subset hx)))
end
/-! ### the beginning -/
section
variable (kl : Kls) {T : Tbl} (tBg : T "_law_bag" = some f__law_bag)
include tBg
theorem bag_ok (n : Nat) (ns : List Int) (hl : ns.length ≤ 63) : ∃ B : Bag, B.Ok ∧ evCall kl T (n + 1) "_law_bag" [.scr (ns.map .int)] [] = .ok (.ref 1) (bgm B []) := by
  have sl : PySem.sizeLine = 16777216 := by decide
  let cells : List Int := ns.map fun c => 2 * (c.natAbs : Int) + if decide (c < 0) = true then 1 else 0
  have cpos : ∀ c ∈ cells, 0 ≤ c := by
    intro c hc
    obtain ⟨x, _, rfl⟩ := List.mem_map.mp hc
    split <;> omega
  have s2 : smallI 2 := by decide
  have s3 : smallI 48271 := by decide
  have s4 : smallI 11 := by decide
  have c2 : evE kl (evCall kl T n) f__law_bag_c2 [some (.scr (ns.map .int)), none, none, none] [] = .ok (.lst (cells.map .int)) [] := by
    simp only [f__law_bag_c2]
    simp_arith [show ((63 : Int)) = ((63 : Nat) : Int) from rfl]
    rw [show (ns.map Vl.int).take 63 = ns.map .int from List.take_of_length_le (by simpa using hl)]
    rw [compI_map0 .int (fun _ => true) (fun c => .int (2 * (c.natAbs : Int) + if decide (c < 0) = true then 1 else 0)) ns ?_ (by omega)]
    · simp only [bindI_ok, mkL_f, cells, List.map_map, Function.comp_def]
      rw [List.filter_eq_self.mpr (fun _ _ => rfl)]
    · intro c _
      exact ⟨_, rfl, by simp_arith [], fun _ => by simp_arith [smul (Or.inl s2)]⟩
  have loop : ∃ (a : Int) (o3 : Option Vl), 0 ≤ a ∧ a < 4294967296 ∧ evS kl (evCall kl T n) f__law_bag_l1 [some (.scr (ns.map .int)), some (.lst (cells.map .int)), some (.int (15722 + 11 * (ns.length : Int))), none] [] = .nx [some (.scr (ns.map .int)), some (.lst (cells.map .int)), some (.int a), o3] [] := by
    have e0 : evS kl (evCall kl T n) f__law_bag_l1 [some (.scr (ns.map .int)), some (.lst (cells.map .int)), some (.int (15722 + 11 * (ns.length : Int))), none] [] =
        forL (fun x σ M => bindT (.nm 3) x σ M) (fun σ M => evSs kl (evCall kl T n) f__law_bag_b1 σ M) [] (cells.map .int) [some (.scr (ns.map .int)), some (.lst (cells.map .int)), some (.int (15722 + 11 * (ns.length : Int))), none] [] := by
      simp only [f__law_bag_l1]
      simp_arith []
    rw [e0]
    refine forL_inv (Q := fun r => ∃ (a : Int) (o3 : Option Vl), 0 ≤ a ∧ a < 4294967296 ∧ r = .nx [some (.scr (ns.map .int)), some (.lst (cells.map .int)), some (.int a), o3] [])
      (fun k σ' M' => ∃ (a : Int) (o3 : Option Vl), 0 ≤ a ∧ a < 4294967296 ∧ σ' = [some (.scr (ns.map .int)), some (.lst (cells.map .int)), some (.int a), o3] ∧ M' = []) ?_ ?_ ?_ ?_
    · exact ⟨_, _, by omega, by omega, rfl, rfl⟩
    · exact fun _ _ _ _ _ => trivial
    · rintro k hk _ _ ⟨a, o3, h1, h2, rfl, rfl⟩
      rw [List.getElem_map]
      refine ⟨[some (.scr (ns.map .int)), some (.lst (cells.map .int)), some (.int a), some (.int (cells[k]'(by simpa using hk)))], rfl, ?_⟩
      show Stp _ _ (evSs kl (evCall kl T n) f__law_bag_b1 _ _)
      simp only [f__law_bag_b1]
      simp_arith [smul (Or.inr s3)]
      exact ⟨_, _, Int.emod_nonneg _ (by decide), by have := Int.emod_lt_of_pos (a * 48271 + (cells[k]'(by simpa using hk)) + 7) (show (0 : Int) < 4294967291 by decide); omega, rfl, rfl⟩
    · rintro _ _ ⟨a, o3, h1, h2, rfl, rfl⟩
      exact ⟨a, o3, h1, h2, rfl⟩
  obtain ⟨a, o3, a1, a2, e⟩ := loop
  have c1 : ∀ o3 : Option Vl, evE kl (evCall kl T n) f__law_bag_c1 [some (.scr (ns.map .int)), some (.lst (cells.map .int)), some (.int a), o3] [] = .ok (.ref 0) [.lst ((cells.filter fun c => decide (1000000000000000 < c)).map .int)] := by
    intro o3
    simp only [f__law_bag_c1]
    simp_arith []
    rw [compI_map0 .int (fun c => decide (1000000000000000 < c)) .int cells ?_ (by simp only [cells, List.length_map]; omega)]
    · rfl
    · intro c _
      refine ⟨_, rfl, ?_, fun _ => by simp_arith []⟩
      have hp : (Int.natAbs 10 < 2 ^ 64) = True := by decide
      simp_arith [hp, Int.reduceToNat, Int.reducePow]
  refine ⟨⟨cells.filter fun c => decide (1000000000000000 < c), a, 0⟩, ⟨fun x hx => cpos x (List.mem_filter.mp hx).1, a1, a2⟩, ?_⟩
  rw [call_of tBg rfl]
  simp only [f__law_bag]
  have k1 : (Str.ofString "far" = Str.ofString "count") = False := by decide +kernel
  have k2 : (Str.ofString "far" = Str.ofString "stirred") = False := by decide +kernel
  have k3 : (Str.ofString "stirred" = Str.ofString "count") = False := by decide +kernel
  simp_arith [c2, smul (Or.inl s4), e, c1, mkD, putK_def, k1, k2, k3, List.all_cons, List.all_nil, Option.isSome_some]
  simp only [leave, Bool.false_eq_true, if_false, bgm, kFar, kSt, kCt]
end
end Sx
end

section
set_option Elab.async false
set_option linter.all false
set_option maxRecDepth 100000
/-! Sg, part 32: nets, rounds (the bag's laws). -/
namespace Sx
open Sg
open PySem (Str PyData)
local macro_rules
| `(tactic| simp_arith [$ls,*]) => `(tactic| simp (config := { decide := false, implicitDefEqProofs := false }) only [↓e_var, ↓e_cst, ↓e_glb, ↓e_tup,
    ↓e_lst, ↓e_dct, ↓e_dic, ↓e_bin, ↓e_neg, ↓e_not, ↓e_and, ↓e_or, ↓e_cmp, ↓e_cmp2, ↓e_ite, ↓e_idx, ↓e_sl, ↓e_rev, ↓e_comp, ↓e_call, ↓e_callk, ↓e_bi,
    ↓e_src, ↓e_meth, ↓e_xfld, ↓e_xisi, ↓es_nil, ↓es_cons, ↓cs_nil, ↓cs_one, ↓oe_no, ↓oe_so, ↓sr_val, ↓sr_enum, ↓sr_zip, ↓sr_rng1, ↓sr_rng2, ↓s_expr,
    ↓s_set, ↓s_setT, ↓s_par, ↓s_setI, ↓s_augI, ↓s_augN, ↓s_ret, ↓s_retN, ↓s_ife, ↓s_for, ↓s_raise, ↓s_try, ↓s_pass, ↓s_brk, ↓s_cnt, ↓ss_nil, ↓ss_cons,
    ↓hs_nil, ↓hs_cons, ↓hs_none, evKs, bindI_ok, bindI_exc, bindI_bad, thnI_ok, thnI_exc, thnI_bad, sthnI_nx, sthnI_brk, sthnI_cnt, sthnI_ret,
    sthnI_exc, sthnI_bad, R.of_some, R.of_none, R.bind_ok, R.thn_ok, RS.thn_nx, List.getElem?_cons_zero, List.getElem?_cons_succ, List.set_cons_zero,
    List.set_cons_succ, Option.bind_some, Option.bind_none, Option.map_some, Option.map_none, id, varV_non, varV_bl, varV_int, varV_str, varV_tup,
    varV_lst, varV_ref, varV_scr, varV_dic, rd_dic, rd_non, rd_bl, rd_int, rd_str, rd_tup, rd_lst, rd_scr, seq_tup, seq_lst, seqLst_lst, tru_bl,
    tru_non, mkL_f, mkL_c, startS_def, List.map_cons, List.map_nil, List.cons_append, List.nil_append, List.replicate_succ, List.replicate_zero,
    Nat.sub_self, Nat.reduceSub, Nat.reduceAdd, bin2, addV, cmpV, eqR_P, eqP_int, inR_P, pureL_ints, pureL_nats, pureL_nil, pureL_cons, Bool.and_true,
    Bool.true_and, List.isEmpty_cons, List.isEmpty_nil, Bool.not_false, Bool.not_true, inP_ints, inP_nats, eqP_lnil, eqP_tnil, intsOf_map, rd_b1,
    rd_b2, pureV, setIV, augGet, methV, methL, setL, bindT, wipeS, List.foldr_cons, List.foldr_nil, setAll, intOf, slV, cutL_take, cutL_drop,
    cutL_drop1, cutL_take1, ordV, isNon, biV, keyOf_str, keyOf_int, lookK_cons, lookK_nil, idxV, rd_r, cellL, lt_line, getD_z, getD_s, Int.ofNat_inj,
    cast0, cast1, cast0', List.dropLast_concat, last_app, last_app', last_map, Nat.add_sub_cancel, Nat.zero_add, List.map_append, Int.ofNat_lt,
    Int.ofNat_le, Nat.reduceLT, List.zip_cons_cons, List.zip_nil_left, List.zip_nil_right, List.foldl_cons, List.foldl_nil, List.any_cons,
    List.any_nil, decide_true, decide_false, Bool.or_true, Bool.true_or, Bool.or_false, Bool.false_or, Bool.false_eq_true, place_zero, place_1,
    place_2, place_3, place_4, List.length_cons, List.length_map, List.length_append, List.length_nil, Option.some.injEq, Sum.inr.injEq, Sum.inl.injEq,
    Int.reduceLT, Int.reduceLE, true_and, and_true, and_self, List.isEmpty_map, reduceIte, reduceCtorEq, if_true, if_false, $ls,*])
local macro_rules
  | `(tactic| simp_all_arith [$ls,*]) => `(tactic| simp_arith [bgm_len, bgm_app, bgm_get0, bgm_get1, bgm_get2, bgm_set0, bgm_set1, bgm_set2, List.append_assoc, Nat.add_assoc, $ls,*])
abbrev iv (n : Nat) : Vl := .int n
def pv (p : Nat × Nat) : Vl := .tup [.int p.1, .int p.2]
abbrev netV (t : List Nat) (l : List (Nat × Nat)) : Vl := .tup [.tup (t.map iv), .tup (l.map pv)]
theorem pure_iv (l : List Nat) : pureL (l.map iv) = true := pureL_nats l
theorem pure_pv (l : List (Nat × Nat)) : pureL (l.map pv) = true := by
  simp only [pureL_iff, List.mem_map]
  rintro x ⟨p, _, rfl⟩
  simp [pv, pureV, pureL]
theorem pure_net (t : List Nat) (l : List (Nat × Nat)) : pureV (netV t l) = true := by simp [netV, pureV, pureL, pure_iv, pure_pv]
theorem inP_iv (i : Nat) (l : List Nat) : inP (.int i) (l.map iv) = some (decide (i ∈ l)) := inP_nats i l
theorem varV_net (t : List Nat) (l : List (Nat × Nat)) : varV (some (netV t l)) = some (netV t l) := rfl
theorem rd_net (t : List Nat) (l : List (Nat × Nat)) (M : Mm) : rd M (netV t l) = .tup [.tup (t.map iv), .tup (l.map pv)] := rfl
local macro_rules
  | `(tactic| simp_arith! [$ls,*]) => `(tactic| simp_arith [varV_net, rd_net, get_app, get_app0, set_app, set_app0, List.append_assoc, Nat.add_assoc, $ls,*])

theorem nodup_len : ∀ (n : Nat) {l : List Nat}, l.Nodup → (∀ x ∈ l, x < n) → l.length ≤ n
  | 0, [], _, _ => by simp
  | 0, x :: r, _, h => absurd (h x (by simp)) (by omega)
  | n + 1, l, nd, h => by
    by_cases m : n ∈ l
    · have ih := nodup_len n (nd.erase n) fun x hx => by
        have := h x (List.mem_of_mem_erase hx)
        have : x ≠ n := (List.Nodup.mem_erase_iff nd).mp hx |>.1
        omega
      rw [List.length_erase_of_mem m] at ih
      omega
    · have := nodup_len n nd fun x hx => by
        have h1 := h x hx
        have : x ≠ n := fun e => m (e ▸ hx)
        omega
      omega
/-- one comes from s to x by lines, by no other than those beside off -/
inductive Way1 (l : List (Nat × Nat)) (off : Int) (s : Nat) : Nat → Prop
  | base : Way1 l off s s
  | step {a b : Nat} : Way1 l off s a → (a, b) ∈ l → (b : Int) ≠ off → b ≠ s → Way1 l off s b
/-- a round through s that leaves off out -/
def Rnd (l : List (Nat × Nat)) (off : Int) (s : Nat) : Prop := ∃ a, Way1 l off s a ∧ (a, s) ∈ l

section
variable (kl : Kls) {T : Tbl} (tR : T "_law_has_round" = some f__law_has_round)
include tR
open Classical in
theorem has_round_ok (n : Nat) (M : Mm) (t : List Nat) (l : List (Nat × Nat)) (s : Nat) (off : Int) (hl : ∀ p ∈ l, p.2 < 100) (hl2 : l.length < 10000) :
    evCall kl T (n + 1) "_law_has_round" [netV t l, .int s, .int off] M = .ok (.bl (decide (Rnd l off s))) M := by
  have pl := pure_iv
  -- one line
  let σ := fun (o5 o6 o7 : Option Vl) => [some (netV t l), some (.int s), some (.int off), some (.ref M.length), some (.ref (M.length + 1)), o5, o6, o7]
  let mem := fun (seen rows : List Nat) => M ++ [.lst (seen.map iv), .lst (rows.map iv)]
  have fin : ∀ b Y, leave true M (.ret (.bl b) (M ++ Y)) = .ok (.bl b) M := fun b Y => leave_ret (by simp [below])
  have body1 : ∀ (h a b : Nat) (o6 o7 : Option Vl) (seen rows : List Nat), seen.length < 1000 → rows.length < 1000 →
      evSs kl (evCall kl T n) f__law_has_round_b1 (σ (some (.int h)) (some (.int a)) (some (.int b))) (mem seen rows) =
        if a = h ∧ b = s then .ret (.bl true) (mem seen rows) else
        if a = h ∧ (b : Int) ≠ off ∧ b ∉ seen then .nx (σ (some (.int h)) (some (.int a)) (some (.int b))) (mem (seen ++ [b]) (rows ++ [b])) else .nx (σ (some (.int h)) (some (.int a)) (some (.int b))) (mem seen rows) := by
    intro h a b o6 o7 seen rows hs hr
    have ls : seen.length < PySem.sizeLine := Nat.lt_of_lt_of_le hs (by decide)
    have lr : rows.length < PySem.sizeLine := Nat.lt_of_lt_of_le hr (by decide)
    simp only [f__law_has_round_b1, σ, mem]
    by_cases h1 : a = h
    · subst h1
      by_cases h2 : b = s
      · subst h2
        simp_arith! []
      · by_cases h3 : (b : Int) = off
        · simp_arith! [h2, eq_true h3]
          simp [h2, h3]
        · by_cases h4 : b ∈ seen
          · simp_arith! [h2, h3, inP_iv, h4]
            simp [h2, h4]
          · simp_arith! [h2, h3, inP_iv, h4, ls, lr]
            simp [h2, iv, h3, h4]
    · simp_arith! [h1]
      simp [h1]
  let P : Nat → List Nat → List Nat → RS → Prop := fun h seen rows r =>
    (∃ o6 o7 ex, (∀ x ∈ ex, Way1 l off s x) ∧ (∀ x ∈ ex, x < 100) ∧ (seen ++ ex).Nodup ∧ s ∉ ex ∧ (∀ b, (h, b) ∈ l → b ≠ s ∧ ((b : Int) ≠ off → b ∈ seen ++ ex)) ∧ r = .nx (σ (some (.int h)) o6 o7) (mem (seen ++ ex) (rows ++ ex))) ∨
      (Rnd l off s ∧ ∃ seen2 rows2, r = .ret (.bl true) (mem seen2 rows2))
  have walk : ∀ (h : Nat) (o6 o7 : Option Vl) (seen rows : List Nat), Way1 l off s h → seen.Nodup → s ∉ seen → (∀ x ∈ seen, x < 100) → rows.length ≤ seen.length + 1 →
      P h seen rows (evS kl (evCall kl T n) f__law_has_round_l1 (σ (some (.int h)) o6 o7) (mem seen rows)) := by
    intro h o6 o7 seen rows hw nd ns hs hr
    have e0 : evS kl (evCall kl T n) f__law_has_round_l1 (σ (some (.int h)) o6 o7) (mem seen rows) =
        forL (fun x σ M => bindT (.tp [6, 7]) x σ M) (fun σ M => evSs kl (evCall kl T n) f__law_has_round_b1 σ M) [] (l.map pv) (σ (some (.int h)) o6 o7) (mem seen rows) := by
      simp only [f__law_has_round_l1, σ]
      simp_arith! [netV]
    rw [e0]
    refine forL_inv (Q := P h seen rows)
      (fun k σ' M' => ∃ o6 o7 ex, (∀ x ∈ ex, Way1 l off s x) ∧ (∀ x ∈ ex, x < 100) ∧ (seen ++ ex).Nodup ∧ s ∉ ex ∧ (∀ b, (h, b) ∈ l.take k → b ≠ s ∧ ((b : Int) ≠ off → b ∈ seen ++ ex)) ∧ σ' = σ (some (.int h)) o6 o7 ∧ M' = mem (seen ++ ex) (rows ++ ex))
      ?_ ?_ ?_ ?_
    · exact ⟨o6, o7, [], by simp, by simp, by simpa using nd, by simp, by simp, rfl, by simp⟩
    · exact fun _ _ _ _ _ => trivial
    · rintro k hk _ _ ⟨p6, p7, ex, h1, h2, h3, h4, h5, rfl, rfl⟩
      have hk' : k < l.length := by simpa using hk
      rw [List.getElem_map]
      have hmem : l[k] ∈ l := List.getElem_mem hk'
      rcases he : l[k] with ⟨a, b⟩
      rw [he] at hmem
      have hb := hl _ hmem
      have len := nodup_len 100 h3 (fun x hx => by rcases List.mem_append.mp hx with q | q; exact hs x q; exact h2 x q)
      have tk : l.take (k + 1) = l.take k ++ [(a, b)] := by rw [← he]; simp
      refine ⟨σ (some (.int h)) (some (.int a)) (some (.int b)), rfl, ?_⟩
      have hlen2 : (rows ++ ex).length < 1000 := by rw [List.length_append] at len ⊢; omega
      show Stp _ _ (evSs kl (evCall kl T n) f__law_has_round_b1 _ _)
      rw [body1 h a b p6 p7 (seen ++ ex) (rows ++ ex) (by omega) hlen2]
      by_cases c1 : a = h ∧ b = s
      · rw [if_pos c1]
        obtain ⟨rfl, rfl⟩ := c1
        exact .inr ⟨⟨a, hw, hmem⟩, _, _, rfl⟩
      · rw [if_neg c1]
        by_cases c2 : a = h ∧ (b : Int) ≠ off ∧ b ∉ seen ++ ex
        · rw [if_pos c2]
          obtain ⟨rfl, c3, c4⟩ := c2
          have c5 : b ≠ s := fun e => c1 ⟨rfl, e⟩
          refine ⟨_, _, ex ++ [b], ?_, ?_, ?_, ?_, ?_, rfl, by simp [List.append_assoc]⟩
          · intro x hx
            rcases List.mem_append.mp hx with q | q
            · exact h1 x q
            · rw [List.mem_singleton.mp q]; exact .step hw hmem c3 c5
          · intro x hx
            rcases List.mem_append.mp hx with q | q
            · exact h2 x q
            · rw [List.mem_singleton.mp q]; exact hb
          · rw [← List.append_assoc, List.nodup_append]
            exact ⟨h3, by simp, fun x hx y hy e => c4 (by rw [← List.mem_singleton.mp hy, ← e]; exact hx)⟩
          · simp [h4, Ne.symm c5]
          · intro c hc
            rw [tk, List.mem_append] at hc
            rcases hc with q | q
            · exact ⟨(h5 c q).1, fun z => by have := (h5 c q).2 z; simp only [List.mem_append] at this ⊢; rcases this with w | w <;> simp [w]⟩
            · have : c = b := by simpa using q
              subst this
              exact ⟨c5, fun _ => by simp⟩
        · rw [if_neg c2]
          refine ⟨_, _, ex, h1, h2, h3, h4, ?_, rfl, rfl⟩
          intro c hc
          rw [tk, List.mem_append] at hc
          rcases hc with q | q
          · exact h5 c q
          · have : h = a ∧ c = b := by simpa using q
            obtain ⟨rfl, rfl⟩ := this
            exact ⟨fun e => c1 ⟨rfl, e⟩, fun z => Classical.byContradiction fun w => c2 ⟨rfl, z, w⟩⟩
    · rintro _ _ ⟨p6, p7, ex, h1, h2, h3, h4, h5, rfl, rfl⟩
      exact .inl ⟨p6, p7, ex, h1, h2, h3, h4, fun b hb => h5 b (by rw [List.length_map, List.take_length]; exact hb), rfl⟩
  -- the whole
  let Q : RS → Prop := fun r => (Rnd l off s ∧ ∃ seen rows, r = .ret (.bl true) (mem seen rows)) ∨ (¬ Rnd l off s ∧ ∃ σ' seen rows, r = .nx σ' (mem seen rows))
  have loop : Q (evS kl (evCall kl T n) f__law_has_round_l2 (σ none none none) (mem [] [s])) := by
    have e0 : evS kl (evCall kl T n) f__law_has_round_l2 (σ none none none) (mem [] [s]) = whileL (fun σ M => (evE kl (evCall kl T n) (.cmp .ne (.var 4) (.lst true .nil)) σ M).bind fun x M1 => R.of (tru M1 x) M1) (fun σ M => evSs kl (evCall kl T n) f__law_has_round_b2 σ M) wFuel (σ none none none) (mem [] [s]) := by
      simp only [f__law_has_round_l2, evS]
    rw [e0]
    refine whileL_inv (Q := Q) (fun m σ' M' => ∃ o5 o6 o7 seen rows done, (∀ x ∈ seen, Way1 l off s x) ∧ (∀ x ∈ seen, x < 100) ∧ seen.Nodup ∧ s ∉ seen ∧ (rows ++ done).Perm (s :: seen) ∧ (∀ x ∈ done, ∀ b, (x, b) ∈ l → b ≠ s ∧ ((b : Int) ≠ off → b ∈ seen)) ∧
      m = rows.length + (100 - seen.length) ∧ σ' = σ o5 o6 o7 ∧ M' = mem seen rows) ?_ wFuel 101 _ _ ?_ (by decide)
    · rintro m _ _ ⟨o5, o6, o7, seen, rows, done, h1, h2, h3, h4, h5, h6, rfl, rfl, rfl⟩
      have len := nodup_len 100 h3 h2
      have plen := h5.length_eq
      rw [List.length_append, List.length_cons] at plen
      have wy : ∀ x ∈ rows ++ done, Way1 l off s x := fun x hx => by
        rcases List.mem_cons.mp (h5.subset hx) with rfl | q
        · exact .base
        · exact h1 x q
      rcases List.eq_nil_or_concat rows with rfl | ⟨rs, h, rfl⟩
      · refine ⟨false, mem seen [], by simp only [σ, mem]; simp_arith! [List.map_nil], fun _ => .inr ⟨?_, _, _, _, rfl⟩, fun h => by cases h⟩
        rintro ⟨a, ha, hs⟩
        have cl : ∀ x, Way1 l off s x → x = s ∨ x ∈ seen := by
          intro x hx
          induction hx with
          | base => exact .inl rfl
          | step w e z q ih =>
            rename_i a b
            have : a ∈ done := by
              have := h5.symm.subset (List.mem_cons.mpr ih)
              simpa using this
            exact .inr ((h6 a this b e).2 z)
        have : a ∈ done := by
          have := h5.symm.subset (List.mem_cons.mpr (cl a ha))
          simpa using this
        exact (h6 a this s hs).1 rfl
      · rw [List.concat_eq_append] at *
        have ne : (rs ++ [h]).map iv ≠ [] := by simp
        have ie : ((rs ++ [h]).map iv).isEmpty = false := by simp
        refine ⟨true, mem seen (rs ++ [h]), ?_, fun h => (by cases h), fun _ => ?_⟩
        · simp only [σ, mem]
          have e : eqP (.lst (rs.map iv ++ [iv h])) (.lst []) = some false := by
            have e := eqP_lnil (pl (rs ++ [h]))
            rwa [ie, List.map_append] at e
          simp_arith [get_app, e]
        have e1 : evSs kl (evCall kl T n) f__law_has_round_b2 (σ o5 o6 o7) (mem seen (rs ++ [h])) = (evS kl (evCall kl T n) f__law_has_round_l1 (σ (some (.int h)) o6 o7) (mem seen rs)).thn fun σ M => .nx σ M := by
          simp only [f__law_has_round_b2, σ, mem]
          simp_arith! [iv]
          rfl
        rw [e1]
        have hw : Way1 l off s h := wy h (by simp)
        rw [List.length_append, List.length_singleton] at plen
        rcases walk h o6 o7 seen rs hw h3 h4 h2 (by omega) with ⟨p6, p7, ex, g1, g2, g3, g4, g5, e⟩ | ⟨r, seen2, rows2, e⟩
        · rw [e]
          have len2 := nodup_len 100 g3 (fun x hx => by rcases List.mem_append.mp hx with q | q; exact h2 x q; exact g2 x q)
          rw [List.length_append] at len2
          refine ⟨_, ?_, some (.int h), p6, p7, seen ++ ex, rs ++ ex, h :: done, ?_, ?_, g3, ?_, ?_, ?_, rfl, rfl, rfl⟩
          · simp only [List.length_append, List.length_singleton]; omega
          · intro x hx; rcases List.mem_append.mp hx with q | q; exact h1 x q; exact g1 x q
          · intro x hx; rcases List.mem_append.mp hx with q | q; exact h2 x q; exact g2 x q
          · simp [h4, g4]
          · have p1 : (rs ++ ex ++ h :: done).Perm (ex ++ (rs ++ [h] ++ done)) := by
              have : (rs ++ ex).Perm (ex ++ rs) := List.perm_append_comm
              refine (this.append_right _).trans (List.Perm.of_eq ?_)
              simp [List.append_assoc]
            refine p1.trans ((List.Perm.append_left ex h5).trans ?_)
            refine (List.perm_append_comm).trans (List.Perm.of_eq ?_)
            simp
          · intro x hx b hb
            rcases List.mem_cons.mp hx with rfl | q
            · exact g5 b hb
            · exact ⟨(h6 x q b hb).1, fun z => by simp [(h6 x q b hb).2 z]⟩
        · rw [e]
          exact .inl ⟨r, seen2, rows2, rfl⟩
    · exact ⟨_, _, _, [], [s], [], by simp, by simp, by simp, by simp, by simp, by simp, rfl, rfl, rfl⟩
  rw [call_of tR rfl]
  simp only [f__law_has_round]
  have em : mem [] [s] = M ++ [.lst [], .lst [.int s]] := rfl
  simp only [em, σ] at loop
  rcases loop with ⟨r, seen, rows, e⟩ | ⟨r, σ', seen, rows, e⟩
  · simp_arith! [e]
    rw [decide_eq_true r]
    exact fin _ _
  · simp_arith! [e]
    rw [decide_eq_false r]
    exact fin _ _
end
theorem rng_iv (n : Nat) : rngV 0 (n : Int) = (List.range n).map iv := rngV_nat n
/-! ### drawn nets -/
def allPairs (n : Nat) : List (Nat × Nat) := (List.range n).flatMap fun a => (List.range n).map fun b => (a, b)
/-- lines of so many stations, in order -/
def LinesOk (n : Nat) (l : List (Nat × Nat)) : Prop := l.Sublist (allPairs n) ∧ ∀ p ∈ l, p.1 ≠ p.2
theorem LinesOk.lt {n : Nat} {l : List (Nat × Nat)} (h : LinesOk n l) : ∀ p ∈ l, p.1 < n ∧ p.2 < n := fun p hp => by
  have := h.1.subset hp
  simp only [allPairs, List.mem_flatMap, List.mem_map, List.mem_range] at this
  obtain ⟨a, ha, b, hb, rfl⟩ := this
  exact ⟨ha, hb⟩
theorem allPairs_len (n : Nat) : (allPairs n).length = n * n := by
  simp only [allPairs, List.length_flatMap, List.length_map, List.length_range]
  have : (List.range n).map (fun _ => n) = List.replicate n n := by rw [List.map_const', List.length_range]
  rw [this, List.sum_replicate_nat]
theorem LinesOk.len {n : Nat} {l : List (Nat × Nat)} (h : LinesOk n l) : l.length ≤ n * n := by
  have := h.1.length_le
  rwa [allPairs_len] at this
theorem eq_five {P : Nat → Prop} (h0 : P 0) (h1 : P 1) (h2 : P 2) (h3 : P 3) (h4 : P 4) : ∀ k : Nat, k < 5 → P k
  | 0, _ => h0 | 1, _ => h1 | 2, _ => h2 | 3, _ => h3 | 4, _ => h4 | k + 5, h => absurd h (by omega)
theorem get5b (a b c d e : Bool) (s : Nat) (h : s < 5) : [Vl.bl a, .bl b, .bl c, .bl d, .bl e][s]? = some (.bl ([a, b, c, d, e].getD s false)) := by
  revert s; exact eq_five rfl rfl rfl rfl rfl
theorem get5i (a b c d e : Int) (s : Nat) (h : s < 5) : [Vl.int a, .int b, .int c, .int d, .int e][s]? = some (.int ([a, b, c, d, e].getD s 1)) := by
  revert s; exact eq_five rfl rfl rfl rfl rfl
section
variable (kl : Kls) {T : Tbl} (tD : T "_law_draw" = some f__law_draw) (tP : T "_law_pick" = some f__law_pick) (tN : T "_law_net" = some f__law_net)
include tD tP tN
theorem net_ok (n : Nat) (B : Bag) (hB : B.Ok) (X : Mm) (m : Nat) (hm : m < 100) (h0 : 0 < m) :
    ∃ (t : List Nat) (l : List (Nat × Nat)) (B' : Bag), B'.Ok ∧ t.length = m ∧ (∀ x ∈ t, 1 ≤ x ∧ x ≤ 3) ∧ LinesOk m l ∧ evCall kl T (n + 3) "_law_net" [.ref 1, .int m] (bgm B X) = .ok (netV t l) (bgm B' X) := by
  let σ := fun (s : Nat) (o4 o5 o6 o7 : Option Vl) => [some (.ref 1), some (.int m), some (.int s), some (.ref (X.length + 2)), o4, o5, o6, o7]
  let mem := fun (B : Bag) (l : List (Nat × Nat)) => bgm B (X ++ [.lst (l.map pv)])
  -- one pair
  have body1 : ∀ (s a b : Nat) (o6 o7 : Option Vl) (B : Bag) (l : List (Nat × Nat)), s < 5 → B.Ok → l.length < 100000 → a < 100 → b < 100 →
      ∃ o6' B' l', B'.Ok ∧ (l' = l ∨ (a ≠ b ∧ l' = l ++ [(a, b)])) ∧ evSs kl (evCall kl T (n + 2)) f__law_net_b1 (σ s (some (.int a)) (some (.int b)) o6 o7) (mem B l) = .nx (σ s (some (.int a)) (some (.int b)) o6' o7) (mem B' l') := by
    intro s a b o6 o7 B l hs hB hl ha hb
    have hl' : l.length < PySem.sizeLine := Nat.lt_of_lt_of_le hl (by decide)
    have hm0 : (0 : Int) < m := by omega
    have gm : 0 < [(9 : Int), 9, 9, 2, 4].getD s 1 ∧ [(9 : Int), 9, 9, 2, 4].getD s 1 < 1000000 := by
      revert s; intro s hs; revert s; exact eq_five (by decide) (by decide) (by decide) (by decide) (by decide)
    have ps : place 5 (s : Int) = some s := by rw [place_nat, if_pos hs]
    have sa : smallI (a : Int) := smallI_nat (by omega)
    simp only [f__law_net_b1, σ, mem]
    simp_all_arith [hm0, get5b, hs, ps, smul (Or.inl sa)]
    generalize [decide (((a : Int) - (b : Int)).natAbs = 1), decide ((b : Int) = ((a : Int) + 1) % (m : Int)), decide ((a : Int) * (b : Int) = 0), false, decide ((b : Int) = ((a : Int) + 1) % (m : Int))].getD s false = w
    by_cases hab : a = b
    · refine ⟨some (.bl w), B, l, hB, .inl rfl, ?_⟩
      simp_all_arith [hab]
    · cases w with
      | true =>
        refine ⟨some (.bl true), B, l ++ [(a, b)], hB, .inr ⟨hab, rfl⟩, ?_⟩
        simp_all_arith [hab, hl']
        rfl
      | false =>
        obtain ⟨k, B', h2, h3, e⟩ := draw_n kl tD (n + 1) B hB (X ++ [.lst (l.map pv)]) _ gm.1 gm.2
        by_cases hk : (k : Int) = 0
        · refine ⟨some (.bl false), B', l ++ [(a, b)], h2, .inr ⟨hab, rfl⟩, ?_⟩
          simp_all_arith [hab, hl', get5i, hs, e, hk]
          rfl
        · refine ⟨some (.bl false), B', l, h2, .inl rfl, ?_⟩
          simp_all_arith [hab, get5i, hs, e, hk]
  have rm : rngOk (m : Int) := rngOk_nat (by omega)
  -- the pairs of one station
  have loop1 : ∀ (s a : Nat) (o5 o6 o7 : Option Vl) (B : Bag) (l base : List (Nat × Nat)), s < 5 → B.Ok → a < 100 → base.length ≤ 10000 → l.Sublist base → (∀ p ∈ l, p.1 ≠ p.2) →
      ∃ o5' o6' B' l', B'.Ok ∧ l'.Sublist (base ++ (List.range m).map fun b => (a, b)) ∧ (∀ p ∈ l', p.1 ≠ p.2) ∧
        evS kl (evCall kl T (n + 2)) f__law_net_l1 (σ s (some (.int a)) o5 o6 o7) (mem B l) = .nx (σ s (some (.int a)) o5' o6' o7) (mem B' l') := by
    intro s a o5 o6 o7 B l base hs hB ha hbl hl hne
    have e0 : evS kl (evCall kl T (n + 2)) f__law_net_l1 (σ s (some (.int a)) o5 o6 o7) (mem B l) = forL (fun x σ M => bindT (.nm 5) x σ M) (fun σ M => evSs kl (evCall kl T (n + 2)) f__law_net_b1 σ M) [] ((List.range m).map iv) (σ s (some (.int a)) o5 o6 o7) (mem B l) := by
      simp only [f__law_net_l1, σ]
      simp_all_arith [rm, rng_iv]
    rw [e0]
    refine forL_inv (Q := fun r => ∃ o5' o6' B' l', B'.Ok ∧ l'.Sublist (base ++ (List.range m).map fun b => (a, b)) ∧ (∀ p ∈ l', p.1 ≠ p.2) ∧ r = .nx (σ s (some (.int a)) o5' o6' o7) (mem B' l'))
      (fun k σ' M' => ∃ o5' o6' B' l', B'.Ok ∧ l'.Sublist (base ++ (List.range k).map fun b => (a, b)) ∧ (∀ p ∈ l', p.1 ≠ p.2) ∧ σ' = σ s (some (.int a)) o5' o6' o7 ∧ M' = mem B' l') ?_ ?_ ?_ ?_
    · exact ⟨o5, o6, B, l, hB, by simpa using hl, hne, rfl, rfl⟩
    · exact fun _ _ _ _ _ => trivial
    · rintro k hk _ _ ⟨p5, p6, B1, l1, h1, h2, h3, rfl, rfl⟩
      have hk' : k < m := by simpa using hk
      have len := h2.length_le
      simp only [List.length_append, List.length_map, List.length_range] at len
      obtain ⟨o6', B2, l2, g1, g2, g3⟩ := body1 s a k p6 o7 B1 l1 hs h1 (by omega) ha (by omega)
      refine ⟨σ s (some (.int a)) (some (.int k)) p6 o7, by simp [bindT, σ, iv], ?_⟩
      show Stp _ _ (evSs kl (evCall kl T (n + 2)) f__law_net_b1 _ _)
      rw [g3]
      refine ⟨_, _, B2, l2, g1, ?_, ?_, rfl, rfl⟩
      · rw [List.range_succ, List.map_append, ← List.append_assoc]
        rcases g2 with rfl | ⟨_, rfl⟩
        · exact h2.trans (List.sublist_append_left _ _)
        · exact h2.append (List.Sublist.refl _)
      · rcases g2 with rfl | ⟨ne, rfl⟩
        · exact h3
        · intro p hp
          rcases List.mem_append.mp hp with q | q
          · exact h3 p q
          · rw [List.mem_singleton.mp q]; exact ne
    · rintro _ _ ⟨p5, p6, B1, l1, h1, h2, h3, rfl, rfl⟩
      exact ⟨p5, p6, B1, l1, h1, by simpa using h2, h3, rfl⟩
  have loop2 : ∀ (s : Nat) (B : Bag), s < 5 → B.Ok → ∃ o4 o5' o6' B' l', B'.Ok ∧ LinesOk m l' ∧ evS kl (evCall kl T (n + 2)) f__law_net_l2 (σ s none none none none) (mem B []) = .nx (σ s o4 o5' o6' none) (mem B' l') := by
    intro s B hs hB
    have e0 : evS kl (evCall kl T (n + 2)) f__law_net_l2 (σ s none none none none) (mem B []) = forL (fun x σ M => bindT (.nm 4) x σ M) (fun σ M => evSs kl (evCall kl T (n + 2)) f__law_net_b2 σ M) [] ((List.range m).map iv) (σ s none none none none) (mem B []) := by
      simp only [f__law_net_l2, σ]
      simp_all_arith [rm, rng_iv]
    rw [e0]
    refine forL_inv (Q := fun r => ∃ o4 o5' o6' B' l', B'.Ok ∧ LinesOk m l' ∧ r = .nx (σ s o4 o5' o6' none) (mem B' l'))
      (fun k σ' M' => ∃ o4 o5' o6' B' l', B'.Ok ∧ l'.Sublist ((List.range k).flatMap fun a => (List.range m).map fun b => (a, b)) ∧ (∀ p ∈ l', p.1 ≠ p.2) ∧ σ' = σ s o4 o5' o6' none ∧ M' = mem B' l') ?_ ?_ ?_ ?_
    · exact ⟨_, _, _, B, [], hB, by simp, by simp, rfl, rfl⟩
    · exact fun _ _ _ _ _ => trivial
    · rintro k hk _ _ ⟨o4, p5, p6, B1, l1, h1, h2, h3, rfl, rfl⟩
      have hk' : k < m := by simpa using hk
      have bl : ((List.range k).flatMap fun a => (List.range m).map fun b => (a, b)).length ≤ 10000 := by
        have : ((List.range k).flatMap fun a => (List.range m).map fun b => (a, b)).length = k * m := by
          simp only [List.length_flatMap, List.length_map, List.length_range]
          rw [List.map_const', List.length_range, List.sum_replicate_nat]
        rw [this]
        exact Nat.mul_le_mul (show k ≤ 100 by omega) (show m ≤ 100 by omega)
      obtain ⟨q5, q6, B2, l2, g1, g2, g3, g4⟩ := loop1 s k p5 p6 none B1 l1 _ hs h1 (by omega) bl h2 h3
      refine ⟨σ s (some (.int k)) p5 p6 none, by simp [bindT, σ, iv], ?_⟩
      show Stp _ _ (evSs kl (evCall kl T (n + 2)) f__law_net_b2 _ _)
      have e1 : evSs kl (evCall kl T (n + 2)) f__law_net_b2 (σ s (some (.int k)) p5 p6 none) (mem B1 l1) = .nx (σ s (some (.int k)) q5 q6 none) (mem B2 l2) := by
        simp only [f__law_net_b2]
        simp_arith [g4]
      rw [e1]
      refine ⟨_, _, _, B2, l2, g1, ?_, g3, rfl, rfl⟩
      rw [List.range_succ, List.flatMap_append]
      simpa using g2
    · rintro _ _ ⟨o4, p5, p6, B1, l1, h1, h2, h3, rfl, rfl⟩
      exact ⟨o4, p5, p6, B1, l1, h1, ⟨by simp only [List.length_map, List.length_range] at h2; exact h2, h3⟩, rfl⟩
  obtain ⟨s, B1, b1, hs, e1⟩ := draw_n kl tD (n + 1) B hB X 5 (by decide) (by decide)
  obtain ⟨o4, o5, o6, B2, l, b2, lo, e2⟩ := loop2 s B1 (by omega) b1
  have tracks : ∃ (t : List Nat) (B3 : Bag), B3.Ok ∧ t.length = m ∧ (∀ x ∈ t, 1 ≤ x ∧ x ≤ 3) ∧ evE kl (evCall kl T (n + 2)) f__law_net_c1 (σ s o4 o5 o6 none) (mem B2 l) = .ok (.lst (t.map iv)) (mem B3 l) := by
    simp only [f__law_net_c1, σ]
    simp_all_arith [rm, rng_iv]
    obtain ⟨ws, M', e, t, B3, h1, h2, h3, rfl, rfl⟩ := compI_inv (bd := fun x σ M => bindT (.nm 7) x σ M) (c := fun σ M => evCs kl (evCall kl T (n + 2)) .nil σ M) (el := fun σ M => evE kl (evCall kl T (n + 2)) (.call "_law_pick" (.cons (.var 0) (.cons (.lst true (.cons (.cst (.int 1)) (.cons (.cst (.int 1)) (.cons (.cst (.int 2)) (.cons (.cst (.int 2)) (.cons (.cst (.int 3)) .nil)))))) .nil))) σ M) (g := [])
      (σ := [some (.ref 1), some (.int m), some (.int s), some (.ref (X.length + 2)), o4, o5, o6, none]) (l := (List.range m).map iv) (M := mem B2 l)
      (fun k acc M' => ∃ (t : List Nat) (B3 : Bag), B3.Ok ∧ t.length = k ∧ (∀ x ∈ t, 1 ≤ x ∧ x ≤ 3) ∧ acc = t.map iv ∧ M' = mem B3 l) ⟨[], B2, b2, rfl, by simp, rfl, rfl⟩ (fun _ _ _ _ _ => trivial) (by
        rintro k hk _ _ ⟨t, B3, h1, rfl, h3, rfl, rfl⟩
        have hk' : t.length < m := by simpa using hk
        obtain ⟨v, B4, b4, hv, e4⟩ := pick_ok kl tD tP n B3 h1 (X ++ [.lst (l.map pv)]) [.int 1, .int 1, .int 2, .int 2, .int 3] (by decide) (by simp) (by decide)
        have hv' : ∃ x : Nat, (1 ≤ x ∧ x ≤ 3) ∧ v = iv x := by
          simp only [List.mem_cons, List.not_mem_nil, or_false] at hv
          rcases hv with rfl | rfl | rfl | rfl | rfl
          · exact ⟨1, by decide, rfl⟩
          · exact ⟨1, by decide, rfl⟩
          · exact ⟨2, by decide, rfl⟩
          · exact ⟨2, by decide, rfl⟩
          · exact ⟨3, by decide, rfl⟩
        obtain ⟨x, hx, rfl⟩ := hv'
        refine ⟨[some (.ref 1), some (.int m), some (.int s), some (.ref (X.length + 2)), o4, o5, o6, some (.int t.length)], true, mem B3 l, by simp [bindT, iv], by simp_arith [], fun _ => ⟨iv x, mem B4 l, ?_, ?_, t ++ [x], B4, b4, by simp, ?_, by simp, rfl⟩, fun h => by cases h⟩
        · simp_arith [mem, e4]
        · rw [List.length_map]; exact Nat.lt_of_lt_of_le (show t.length < 1000 by omega) (by decide)
        · intro y hy
          rcases List.mem_append.mp hy with q | q
          · exact h3 y q
          · rw [List.mem_singleton.mp q]; exact hx)
    refine ⟨t, B3, h1, by simpa using h2, h3, ?_⟩
    rw [e]
    rfl
  obtain ⟨t, B3, b3, t1, t2, e3⟩ := tracks
  refine ⟨t, l, B3, b3, t1, t2, lo, ?_⟩
  rw [call_of tN rfl]
  simp only [f__law_net]
  simp only [σ, mem, List.map_nil] at e2 e3
  simp_all_arith [e1, e2, e3]
  exact leave_bgm (below_pure _ (pure_net t l))
end
/-! ### stations that lack a gate -/
open Classical in
noncomputable def bareN (t : List Nat) (l : List (Nat × Nat)) : List Nat :=
  (List.range t.length).filter fun s => decide (t[s]? = some 1 ∧ Rnd l (-1) s ∧ ∀ o : Nat, o < t.length → o ≠ s → Rnd l o s)
section
variable (kl : Kls) {T : Tbl} (tR : T "_law_has_round" = some f__law_has_round) (tB : T "_law_bare" = some f__law_bare)
include tR tB
open Classical in
theorem bare_ok (n : Nat) (M : Mm) (t : List Nat) (l : List (Nat × Nat)) (hl : ∀ p ∈ l, p.2 < 100) (hl2 : l.length < 10000) (ht : t.length < 1000) :
    evCall kl T (n + 2) "_law_bare" [netV t l] M = .ok (.lst ((bareN t l).map iv)) M := by
  let σ := fun (o2 o3 o4 o5 : Option Vl) => [some (netV t l), some (.ref M.length), o2, o3, o4, o5]
  let mem := fun (f : List Nat) => M ++ [.lst (f.map iv)]
  have rt : rngOk (t.length : Int) := rngOk_nat (by omega)
  have sl : PySem.sizeLine = 16777216 := by decide
  have round := fun (s : Nat) (off : Int) (M : Mm) => has_round_ok kl tR n M t l s off hl hl2
  have body1 : ∀ (s many : Nat) (o4 o5 : Option Vl) (f : List Nat), f.length < 1000 → ∃ o4' o5', evSs kl (evCall kl T (n + 1)) f__law_bare_b1 (σ (some (.int s)) (some (.int many)) o4 o5) (mem f) =
      .nx (σ (some (.int s)) (some (.int many)) o4' o5') (mem (if many = 1 ∧ Rnd l (-1) s ∧ ∀ o : Nat, o < t.length → o ≠ s → Rnd l o s then f ++ [s] else f)) := by
    intro s many o4 o5 f hf
    have hf' : f.length < PySem.sizeLine := by omega
    by_cases h1 : many = 1
    · by_cases h2 : Rnd l (-1) s
      · have c2 : ∀ o4 o5, evE kl (evCall kl T (n + 1)) f__law_bare_c2 (σ (some (.int s)) (some (.int many)) o4 o5) (mem f) = .ok (.lst (((List.range t.length).filter fun o => decide (o ≠ s)).map iv)) (mem f) := by
          intro o4 o5
          simp only [f__law_bare_c2, σ, netV]
          simp_arith! [rt, rng_iv]
          rw [compI_map0 iv (fun o => decide (o ≠ s)) iv (List.range t.length) ?_ (by simp; omega)]
          · rfl
          · intro o _
            refine ⟨_, rfl, ?_, fun _ => ?_⟩
            · simp_arith [iv]
              simp
            · simp_arith [iv]
        have c1 : ∀ o5, evE kl (evCall kl T (n + 1)) f__law_bare_c1 (σ (some (.int s)) (some (.int many)) (some (.lst (((List.range t.length).filter fun o => decide (o ≠ s)).map iv))) o5) (mem f) =
            .ok (.lst ((((List.range t.length).filter fun o => decide (o ≠ s)).filter fun (o : Nat) => !decide (Rnd l o s)).map iv)) (mem f) := by
          intro o5
          simp only [f__law_bare_c1, σ]
          simp_arith! []
          rw [compI_map0 iv (fun (o : Nat) => !decide (Rnd l o s)) iv _ ?_ ?_]
          · rfl
          · intro o _
            refine ⟨_, rfl, ?_, fun _ => ?_⟩
            · simp_arith [iv, varV_net, round]
            · rfl
          · have := List.length_filter_le (fun o => decide (o ≠ s)) (List.range t.length)
            rw [List.length_range] at this
            omega
        simp only [σ, mem] at c1 c2 ⊢
        simp only [f__law_bare_b1]
        by_cases h3 : ∀ o : Nat, o < t.length → o ≠ s → Rnd l o s
        · have e : (((List.range t.length).filter fun o => decide (o ≠ s)).filter fun (o : Nat) => !decide (Rnd l o s)) = [] := by
            simp only [List.filter_eq_nil_iff, List.mem_filter, List.mem_range, decide_eq_true_eq, Bool.not_eq_true', decide_eq_false_iff_not]
            exact fun o ⟨a, b⟩ c => c (h3 o a b)
          rw [if_pos ⟨h1, h2, h3⟩]
          rw [e] at c1
          refine ⟨some (.lst (((List.range t.length).filter fun o => decide (o ≠ s)).map iv)), o5, ?_⟩
          simp_arith! [eq_true h1, round, h2, c2, varV_net]
          simp_arith! [c1, hf']
        · have e : (((List.range t.length).filter fun o => decide (o ≠ s)).filter fun (o : Nat) => !decide (Rnd l o s)) ≠ [] := by
            intro e
            simp only [List.filter_eq_nil_iff, List.mem_filter, List.mem_range, decide_eq_true_eq, Bool.not_eq_true', decide_eq_false_iff_not] at e
            exact h3 fun o a b => Classical.byContradiction fun c => e o ⟨a, b⟩ c
          have e2 : ((((List.range t.length).filter fun o => decide (o ≠ s)).filter fun (o : Nat) => !decide (Rnd l o s)).map iv).isEmpty = false := by
            rw [List.isEmpty_map]
            cases q : (((List.range t.length).filter fun o => decide (o ≠ s)).filter fun (o : Nat) => !decide (Rnd l o s)) with
            | nil => exact absurd q e
            | cons => rfl
          rw [if_neg fun h => h3 h.2.2]
          refine ⟨some (.lst (((List.range t.length).filter fun o => decide (o ≠ s)).map iv)), o5, ?_⟩
          have e3 := eqP_lnil (pure_iv (((List.range t.length).filter fun o => decide (o ≠ s)).filter fun (o : Nat) => !decide (Rnd l o s)))
          rw [e2] at e3
          simp_arith! [eq_true h1, round, h2, c2, varV_net]
          simp_arith! [c1, e3]
      · rw [if_neg fun h => h2 h.2.1]
        refine ⟨o4, o5, ?_⟩
        simp only [f__law_bare_b1, σ, mem]
        simp_arith! [eq_true h1, round, h2, varV_net]
    · rw [if_neg fun h => h1 h.1]
      refine ⟨o4, o5, ?_⟩
      simp only [f__law_bare_b1, σ, mem]
      simp_arith! [eq_false h1]
  have loop : ∃ o2 o3 o4 o5, evS kl (evCall kl T (n + 1)) f__law_bare_l1 (σ none none none none) (mem []) = .nx (σ o2 o3 o4 o5) (mem (bareN t l)) := by
    have e0 : evS kl (evCall kl T (n + 1)) f__law_bare_l1 (σ none none none none) (mem []) = forL (fun x σ M => bindT (.tp [2, 3]) x σ M) (fun σ M => evSs kl (evCall kl T (n + 1)) f__law_bare_b1 σ M) [] (t.zipIdx.map fun p => .tup [.int p.2, iv p.1]) (σ none none none none) (mem []) := by
      simp only [f__law_bare_l1, σ, netV]
      simp_arith! [enumV_map]
    rw [e0]
    refine forL_inv (Q := fun r => ∃ o2 o3 o4 o5, r = .nx (σ o2 o3 o4 o5) (mem (bareN t l))) (fun k σ' M' => ∃ o2 o3 o4 o5, σ' = σ o2 o3 o4 o5 ∧ M' = mem ((List.range k).filter fun s => decide (t[s]? = some 1 ∧ Rnd l (-1) s ∧ ∀ o : Nat, o < t.length → o ≠ s → Rnd l o s))) ?_ ?_ ?_ ?_
    · exact ⟨_, _, _, _, rfl, rfl⟩
    · exact fun _ _ _ _ _ => trivial
    · rintro k hk _ _ ⟨o2, o3, o4, o5, rfl, rfl⟩
      have hk' : k < t.length := by simpa using hk
      have hf := List.length_filter_le (fun s => decide (t[s]? = some 1 ∧ Rnd l (-1) s ∧ ∀ o : Nat, o < t.length → o ≠ s → Rnd l o s)) (List.range k)
      rw [List.length_range] at hf
      obtain ⟨q4, q5, e⟩ := body1 k t[k] o4 o5 _ (Nat.lt_of_le_of_lt hf (by omega))
      refine ⟨σ (some (.int k)) (some (.int t[k])) o4 o5, by simp [bindT, σ, iv], ?_⟩
      show Stp _ _ (evSs kl (evCall kl T (n + 1)) f__law_bare_b1 _ _)
      rw [e]
      refine ⟨_, _, _, _, rfl, ?_⟩
      have g : t[k]? = some t[k] := List.getElem?_eq_getElem hk'
      rw [List.range_succ, List.filter_append, List.filter_cons]
      by_cases c : t[k] = 1 ∧ Rnd l (-1) k ∧ ∀ o : Nat, o < t.length → o ≠ k → Rnd l o k
      · have c' : t[k]? = some 1 ∧ Rnd l (-1) k ∧ ∀ o : Nat, o < t.length → o ≠ k → Rnd l o k := ⟨by rw [g, c.1], c.2⟩
        rw [if_pos c, if_pos (decide_eq_true c'), List.filter_nil]
      · have c' : ¬ (t[k]? = some 1 ∧ Rnd l (-1) k ∧ ∀ o : Nat, o < t.length → o ≠ k → Rnd l o k) := fun h => c ⟨by simpa [g] using h.1, h.2⟩
        rw [if_neg c, if_neg (by rw [decide_eq_false c']; exact Bool.false_ne_true), List.filter_nil, List.append_nil]
    · rintro _ _ ⟨o2, o3, o4, o5, rfl, rfl⟩
      rw [List.length_map, List.length_zipIdx]
      exact ⟨o2, o3, o4, o5, rfl⟩
  obtain ⟨o2, o3, o4, o5, e⟩ := loop
  rw [call_of tB rfl]
  simp only [f__law_bare]
  simp only [σ, mem, List.map_nil] at e
  simp_arith! [e]
  exact leave_ref0 (belowL_pure _ (pure_iv _))
end
section
variable (kl : Kls) {T : Tbl} (tD : T "_law_draw" = some f__law_draw) (tP : T "_law_pick" = some f__law_pick) (tN : T "_law_net" = some f__law_net) (tR : T "_law_has_round" = some f__law_has_round) (tB : T "_law_bare" = some f__law_bare) (tG : T "_law_gated" = some f__law_gated)
include tD tP tN tR tB tG
open Classical in
/-- a gated net: stations that lack a gate have a track more -/
theorem gated_ok (n : Nat) (B : Bag) (hB : B.Ok) (X : Mm) (m : Nat) (hm : m < 100) (h0 : 0 < m) :
    ∃ (t0 t : List Nat) (l : List (Nat × Nat)) (B' : Bag), B'.Ok ∧ t.length = m ∧ (∀ x ∈ t, 1 ≤ x ∧ x ≤ 3) ∧ t0.length = m ∧ (t = t0.zipIdx.map fun p => p.1 + if p.2 ∈ bareN t0 l then 1 else 0) ∧ LinesOk m l ∧
      evCall kl T (n + 4) "_law_gated" [.ref 1, .int m] (bgm B X) = .ok (netV t l) (bgm B' X) := by
  obtain ⟨t, l, B', h1, h2, h3, h4, e⟩ := net_ok kl tD tP tN n B hB X m hm h0
  have hl : ∀ p ∈ l, p.2 < 100 := fun p hp => Nat.lt_trans (h4.lt p hp).2 hm
  have hl2 : l.length < 10000 := Nat.lt_of_le_of_lt h4.len (by have := Nat.mul_le_mul (show m ≤ 99 by omega) (show m ≤ 99 by omega); omega)
  have eb := bare_ok kl tR tB (n + 1) (bgm B' X) t l hl hl2 (by omega)
  refine ⟨t, t.zipIdx.map fun p => p.1 + if p.2 ∈ bareN t l then 1 else 0, l, B', h1, by simp [h2], ?_, h2, rfl, h4, ?_⟩
  · intro x hx
    simp only [List.mem_map] at hx
    obtain ⟨⟨a, i⟩, hp, rfl⟩ := hx
    have hi := List.mem_zipIdx hp
    simp only [Nat.zero_add, Nat.sub_zero] at hi
    have ha := h3 a (by rw [hi.2.2]; exact List.getElem_mem _)
    by_cases hb : i ∈ bareN t l
    · have : a = 1 := by
        simp only [bareN, List.mem_filter, decide_eq_true_eq] at hb
        have g := hb.2.1
        rw [List.getElem?_eq_getElem (by omega), Option.some.injEq] at g
        rw [hi.2.2]; exact g
      simp only [if_pos hb]; omega
    · simp only [if_neg hb]; omega
  · rw [call_of tG rfl]
    simp only [f__law_gated]
    simp_arith! [e, eb]
    have c1 : evE kl (evCall kl T (n + 3)) f__law_gated_c1 [some (.ref 1), some (.int m), some (netV t l), some (.lst ((bareN t l).map iv)), none, none] (bgm B' X) =
        .ok (.lst ((t.zipIdx.map fun p => p.1 + if p.2 ∈ bareN t l then 1 else 0).map iv)) (bgm B' X) := by
      simp only [f__law_gated_c1]
      simp_arith [varV_net, netV, enumV_map]
      rw [compI_map0 (fun p : Nat × Nat => .tup [.int p.2, iv p.1]) (fun _ => true) (fun p => iv (p.1 + if p.2 ∈ bareN t l then 1 else 0)) t.zipIdx ?_ ?_]
      · simp only [bindI_ok, mkL_f]
        congr 2
        rw [List.filter_eq_self.mpr (fun _ _ => rfl)]
        simp [List.map_map, Function.comp_def]
      · rintro ⟨a, i⟩ _
        refine ⟨_, rfl, by simp_arith [], fun _ => ?_⟩
        simp_arith [iv, inP_iv]
        by_cases hb : i ∈ bareN t l
        · simp_arith [hb]
          rfl
        · simp_arith [hb]
          rfl
      · have : PySem.sizeLine = 16777216 := by decide
        simp only [List.length_zipIdx]; omega
    simp_arith! [c1]
    exact leave_bgm0 (below_pure _ (pure_net _ l))
end
end Sx
end

section
set_option Elab.async false
set_option linter.all false
set_option maxRecDepth 100000
/-! Sg, part 33: ways, standings (the bag's laws). -/
namespace Sx
open Sg
open PySem (Str PyData)
local macro_rules
| `(tactic| simp_arith [$ls,*]) => `(tactic| simp (config := { decide := false, implicitDefEqProofs := false }) only [↓e_var, ↓e_cst, ↓e_glb, ↓e_tup,
    ↓e_lst, ↓e_dct, ↓e_dic, ↓e_bin, ↓e_neg, ↓e_not, ↓e_and, ↓e_or, ↓e_cmp, ↓e_cmp2, ↓e_ite, ↓e_idx, ↓e_sl, ↓e_rev, ↓e_comp, ↓e_call, ↓e_callk, ↓e_bi,
    ↓e_src, ↓e_meth, ↓e_xfld, ↓e_xisi, ↓es_nil, ↓es_cons, ↓cs_nil, ↓cs_one, ↓oe_no, ↓oe_so, ↓sr_val, ↓sr_enum, ↓sr_zip, ↓sr_rng1, ↓sr_rng2, ↓s_expr,
    ↓s_set, ↓s_setT, ↓s_par, ↓s_setI, ↓s_augI, ↓s_augN, ↓s_ret, ↓s_retN, ↓s_ife, ↓s_for, ↓s_raise, ↓s_try, ↓s_pass, ↓s_brk, ↓s_cnt, ↓ss_nil, ↓ss_cons,
    ↓hs_nil, ↓hs_cons, ↓hs_none, evKs, bindI_ok, bindI_exc, bindI_bad, thnI_ok, thnI_exc, thnI_bad, sthnI_nx, sthnI_brk, sthnI_cnt, sthnI_ret,
    sthnI_exc, sthnI_bad, R.of_some, R.of_none, R.bind_ok, R.thn_ok, RS.thn_nx, List.getElem?_cons_zero, List.getElem?_cons_succ, List.set_cons_zero,
    List.set_cons_succ, Option.bind_some, Option.bind_none, Option.map_some, Option.map_none, id, varV_non, varV_bl, varV_int, varV_str, varV_tup,
    varV_lst, varV_ref, varV_scr, varV_dic, rd_dic, rd_non, rd_bl, rd_int, rd_str, rd_tup, rd_lst, rd_scr, seq_tup, seq_lst, seqLst_lst, tru_bl,
    tru_non, mkL_f, mkL_c, startS_def, List.map_cons, List.map_nil, List.cons_append, List.nil_append, List.replicate_succ, List.replicate_zero,
    Nat.sub_self, Nat.reduceSub, Nat.reduceAdd, bin2, addV, cmpV, eqR_P, eqP_int, inR_P, pureL_ints, pureL_nats, pureL_nil, pureL_cons, Bool.and_true,
    Bool.true_and, List.isEmpty_cons, List.isEmpty_nil, Bool.not_false, Bool.not_true, inP_ints, inP_nats, eqP_lnil, eqP_tnil, intsOf_map, rd_b1,
    rd_b2, pureV, setIV, augGet, methV, methL, setL, bindT, wipeS, List.foldr_cons, List.foldr_nil, setAll, intOf, slV, cutL_take, cutL_drop,
    cutL_drop1, cutL_take1, ordV, isNon, biV, keyOf_str, keyOf_int, lookK_cons, lookK_nil, idxV, rd_r, cellL, lt_line, getD_z, getD_s, Int.ofNat_inj,
    cast0, cast1, cast0', List.dropLast_concat, last_app, last_app', last_map, Nat.add_sub_cancel, Nat.zero_add, List.map_append, Int.ofNat_lt,
    Int.ofNat_le, Nat.reduceLT, List.zip_cons_cons, List.zip_nil_left, List.zip_nil_right, List.foldl_cons, List.foldl_nil, List.any_cons,
    List.any_nil, decide_true, decide_false, Bool.or_true, Bool.true_or, Bool.or_false, Bool.false_or, Bool.false_eq_true, place_zero, place_1,
    place_2, place_3, place_4, List.length_cons, List.length_map, List.length_append, List.length_nil, Option.some.injEq, Sum.inr.injEq, Sum.inl.injEq,
    Int.reduceLT, Int.reduceLE, true_and, and_true, and_self, List.isEmpty_map, reduceIte, reduceCtorEq, if_true, if_false, $ls,*])
local macro_rules
  | `(tactic| simp_all_arith [$ls,*]) => `(tactic| simp_arith [bgm_len, bgm_app, bgm_get0, bgm_get1, bgm_get2, bgm_set0, bgm_set1, bgm_set2, List.append_assoc, Nat.add_assoc, $ls,*])
local macro_rules
  | `(tactic| simp_arith! [$ls,*]) => `(tactic| simp_arith [varV_net, rd_net, get_app, get_app0, set_app, set_app0, List.append_assoc, Nat.add_assoc, $ls,*])
inductive Way where
  | mk (s : Nat) (f : List Way)
def Way.s : Way → Nat | .mk s _ => s
def Way.f : Way → List Way | .mk _ f => f
mutual
def wv : Way → Vl
  | .mk s f => .tup [iv s, .tup (wvs f)]
def wvs : List Way → List Vl
  | [] => []
  | w :: r => wv w :: wvs r
end
theorem wvs_map : ∀ (f : List Way), wvs f = f.map wv
  | [] => rfl
  | w :: r => by simp [wvs, wvs_map r]
theorem wv_mk (s : Nat) (f : List Way) : wv (.mk s f) = .tup [iv s, .tup (f.map wv)] := by simp [wv, wvs_map]
theorem wv_def (w : Way) : wv w = .tup [iv w.s, .tup (w.f.map wv)] := by cases w; exact wv_mk _ _
theorem varV_wv (w : Way) : varV (some (wv w)) = some (wv w) := by rw [wv_def]; rfl
theorem rd_wv (w : Way) (M : Mm) : rd M (wv w) = .tup [iv w.s, .tup (w.f.map wv)] := by rw [wv_def]; rfl
mutual
theorem pure_wv : ∀ (w : Way), pureV (wv w) = true
  | .mk s f => by simp only [wv, pureV, pureL, iv, pure_wvs f, Bool.and_true]
theorem pure_wvs : ∀ (f : List Way), pureL (wvs f) = true
  | [] => by simp [wvs, pureL]
  | w :: r => by simp [wvs, pureL, pure_wv w, pure_wvs r]
end
theorem pure_wvm (f : List Way) : pureL (f.map wv) = true := by rw [← wvs_map]; exact pure_wvs f
def ov : Option Way → Vl
  | none => .non
  | some w => wv w
abbrev stV (st : List (Option Way)) : Vl := .tup (st.map ov)
theorem pure_ov (o : Option Way) : pureV (ov o) = true := by cases o; rfl; exact pure_wv _
theorem pure_ovm (st : List (Option Way)) : pureL (st.map ov) = true := by
  simp only [pureL_iff, List.mem_map]
  rintro x ⟨o, _, rfl⟩
  exact pure_ov o
theorem pure_st (st : List (Option Way)) : pureV (stV st) = true := by simp only [stV, pureV, pure_ovm]
theorem varV_st (st : List (Option Way)) : varV (some (stV st)) = some (stV st) := rfl
theorem rd_st (st : List (Option Way)) (M : Mm) : rd M (stV st) = .tup (st.map ov) := rfl
theorem canSort_iv (l : List Nat) : canSort (l.map iv) := canSort_nats l
theorem sortV_iv (l : List Nat) : sortV (l.map iv) = (l.mergeSort fun a b => decide (a ≤ b)).map iv := sortV_nats l
theorem perm_iv {mx : List Vl} {mn : List Nat} (h : mx.Perm (mn.map iv)) : ∃ ms : List Nat, mx = ms.map iv ∧ ms.Perm mn := by
  let g : Vl → Nat := fun w => match w with | .int i => i.toNat | _ => 0
  have q : ∀ l : List Nat, (l.map iv).map g = l := fun l => by
    rw [List.map_map]
    conv => rhs; rw [← List.map_id l]
    exact List.map_congr_left fun a _ => by simp [g]
  refine ⟨mx.map g, ?_, ?_⟩
  · have : ∀ x ∈ mx, iv (g x) = x := fun x hx => by
      obtain ⟨a, _, rfl⟩ := List.mem_map.mp (h.subset hx)
      simp [g]
    rw [List.map_map]
    conv => lhs; rw [← List.map_id mx]
    exact (List.map_congr_left fun a ha => by simp [this a ha]).symm
  · have := h.map g
    rwa [q] at this
/-- a way in a net of m stations, of at most d steps -/
def WayOk (m : Nat) (l : List (Nat × Nat)) : Nat → Way → Prop
  | 0, w => w.s < m ∧ w.f = []
  | d + 1, w => w.s < m ∧ w.f.length ≤ 3 ∧ (w.f.map Way.s).Pairwise (· < ·) ∧ ∀ c ∈ w.f, (w.s, c.s) ∈ l ∧ WayOk m l d c
theorem WayOk.leaf {m : Nat} {l : List (Nat × Nat)} {s : Nat} (h : s < m) : ∀ d, WayOk m l d (.mk s [])
  | 0 => ⟨h, rfl⟩
  | d + 1 => ⟨h, by simp [Way.f], by simp [Way.f], by simp [Way.f]⟩
theorem WayOk.up {m : Nat} {l : List (Nat × Nat)} : ∀ {d : Nat} {w : Way}, WayOk m l d w → WayOk m l (d + 1) w
  | 0, .mk s f, h => by
    have h2 : f = [] := h.2
    subst h2
    exact WayOk.leaf h.1 1
  | d + 1, w, h => ⟨h.1, h.2.1, h.2.2.1, fun c hc => ⟨(h.2.2.2 c hc).1, (h.2.2.2 c hc).2.up⟩⟩
theorem WayOk.s_lt {m : Nat} {l : List (Nat × Nat)} {d : Nat} {w : Way} (h : WayOk m l d w) : w.s < m := by
  cases d with
  | zero => exact h.1
  | succ d => exact h.1
local macro_rules
  | `(tactic| simp_all_arith! [$ls,*]) => `(tactic| simp_arith! [varV_wv, rd_wv, varV_st, rd_st, bgm_len, bgm_app, bgm_get0, bgm_get1, bgm_get2, bgm_set0, bgm_set1, bgm_set2, $ls,*])
theorem sorted_lt {l : List Nat} (nd : l.Nodup) : (l.mergeSort fun a b => decide (a ≤ b)).Pairwise (· < ·) := by
  have h := List.pairwise_mergeSort (le := fun a b : Nat => decide (a ≤ b)) (fun a b c h1 h2 => by simp at *; omega) (fun a b => by simp; omega) l
  have nd2 : (l.mergeSort fun a b => decide (a ≤ b)).Nodup := (List.mergeSort_perm l _).nodup_iff.mpr nd
  refine (List.Pairwise.and h nd2).imp fun {a b} ⟨p, q⟩ => ?_
  simp at p
  exact Nat.lt_of_le_of_ne p q
def Lex2 (p q : Nat × Nat) : Prop := p.1 < q.1 ∨ (p.1 = q.1 ∧ p.2 < q.2)
theorem allPairs_lex (n : Nat) : (allPairs n).Pairwise Lex2 := by
  unfold allPairs
  rw [List.pairwise_flatMap]
  refine ⟨fun a _ => ?_, ?_⟩
  · rw [List.pairwise_map]
    exact List.pairwise_lt_range.imp fun {x y} h => .inr ⟨rfl, h⟩
  · refine List.pairwise_lt_range.imp fun {x y} h p hp q hq => ?_
    simp only [List.mem_map] at hp hq
    obtain ⟨_, _, rfl⟩ := hp
    obtain ⟨_, _, rfl⟩ := hq
    exact .inl h
theorem LinesOk.lex {n : Nat} {l : List (Nat × Nat)} (h : LinesOk n l) : l.Pairwise Lex2 := (allPairs_lex n).sublist h.1
theorem LinesOk.heads {n : Nat} {l : List (Nat × Nat)} (h : LinesOk n l) (s : Nat) : ((l.filter fun p => decide (p.1 = s)).map fun p => p.2).Pairwise (· < ·) := by
  rw [List.pairwise_map]
  have p := h.lex.filter fun p => decide (p.1 = s)
  refine p.imp_of_mem fun {x y} hx hy r => ?_
  simp only [List.mem_filter, decide_eq_true_eq] at hx hy
  rcases r with r | r
  · omega
  · exact r.2
theorem LinesOk.heads_nd {n : Nat} {l : List (Nat × Nat)} (h : LinesOk n l) (s : Nat) : ((l.filter fun p => decide (p.1 = s)).map fun p => p.2).Nodup :=
  (h.heads s).imp fun h => Nat.ne_of_lt h
section
variable (kl : Kls) {T : Tbl} (tD : T "_law_draw" = some f__law_draw) (tM : T "_law_mixed" = some f__law_mixed) (tW : T "_law_way" = some f__law_way)
include tD tM tW
theorem way_ok (n : Nat) (t : List Nat) (l : List (Nat × Nat)) (m : Nat) (lo : LinesOk m l) (hm : m < 100) : ∀ (d : Nat) (B : Bag) (hB : B.Ok) (X : Mm) (s : Nat) (steps forks : Int), s < m → steps ≤ d →
    ∃ (w : Way) (B' : Bag), B'.Ok ∧ w.s = s ∧ WayOk m l d w ∧ evCall kl T (n + d + 3) "_law_way" [.ref 1, netV t l, iv s, .int steps, .int forks] (bgm B X) = .ok (wv w) (bgm B' X) := by
  have sl : PySem.sizeLine = 16777216 := by decide
  have ll : l.length < 10000 := Nat.lt_of_le_of_lt lo.len (by have := Nat.mul_le_mul (show m ≤ 99 by omega) (show m ≤ 99 by omega); omega)
  have c1 : ∀ (n : Nat) (M : Mm) (s : Nat) (o3 o4 : Option Vl), evE kl (evCall kl T n) f__law_way_c1 [some (.ref 1), some (netV t l), some (iv s), o3, o4, none, none, none, none, none, none, none] M =
      .ok (.lst (((l.filter fun p => decide (p.1 = s)).map fun p => p.2).map iv)) M := by
    intro n M s o3 o4
    simp only [f__law_way_c1]
    simp_arith! []
    rw [compI_map0 pv (fun p => decide (p.1 = s)) (fun p => iv p.2) l ?_ (by omega)]
    · simp only [bindI_ok, mkL_f, List.map_map, Function.comp_def]
    · rintro ⟨a, b⟩ _
      refine ⟨_, rfl, ?_, fun _ => ?_⟩
      · simp_arith []
      · simp_arith []
  intro d
  induction d with
  | zero =>
    intro B hB X s steps forks hs hst
    refine ⟨.mk s [], B, hB, rfl, WayOk.leaf hs 0, ?_⟩
    rw [show n + 0 + 3 = (n + 2) + 1 from rfl, call_of tW rfl]
    simp only [f__law_way]
    have h1 : (steps < 1) = True := eq_true (by omega)
    simp_all_arith! [c1, h1]
    exact leave_bgm0 (below_pure _ (pure_wv (.mk s [])))
  | succ d ih =>
    intro B hB X s steps forks hs hst
    by_cases h1 : steps < 1
    · obtain ⟨w, B', b1, b2, b3, e⟩ := ih B hB X s steps forks hs (by omega)
      refine ⟨.mk s [], B, hB, rfl, WayOk.leaf hs _, ?_⟩
      rw [show n + (d + 1) + 3 = (n + d + 3) + 1 by omega, call_of tW rfl]
      simp only [f__law_way]
      have h1 : (steps < 1) = True := eq_true (by omega)
      simp_all_arith! [c1, h1]
      exact leave_bgm0 (below_pure _ (pure_wv (.mk s [])))
    · generalize hmn : ((l.filter fun p => decide (p.1 = s)).map fun p => p.2) = mn at c1
      have mem_mn : ∀ x ∈ mn, (s, x) ∈ l := by
        intro x hx
        rw [← hmn] at hx
        simp only [List.mem_map, List.mem_filter, decide_eq_true_eq] at hx
        obtain ⟨⟨a, b⟩, ⟨h, rfl⟩, rfl⟩ := hx
        exact h
      have nd_mn : mn.Nodup := by rw [← hmn]; exact lo.heads_nd s
      have len_mn : mn.length < 10000 := by
        rw [← hmn, List.length_map]
        exact Nat.lt_of_le_of_lt (List.length_filter_le _ _) ll
      have hn : n + (d + 1) + 3 = (n + d + 3) + 1 := by omega
      obtain ⟨N, hN⟩ : ∃ N, N = n + d := ⟨_, rfl⟩
      rw [← hN] at hn
      simp only [← hN] at ih
      have hk1 : (steps < 1) = False := eq_false h1
      by_cases hmn0 : mn = []
      · refine ⟨.mk s [], B, hB, rfl, WayOk.leaf hs _, ?_⟩
        rw [hn, call_of tW rfl]
        simp only [f__law_way]
        subst hmn0
        simp_all_arith! [c1, hk1, hmn]
        exact leave_bgm0 (below_pure _ (pure_wv (.mk s [])))
      have em : mn.isEmpty = false := by cases mn with | nil => exact absurd rfl hmn0 | cons => rfl
      -- how many choices
      have i2 : ∃ (k : Nat) (B' : Bag), B'.Ok ∧ 1 ≤ k ∧ k ≤ 3 ∧ evS kl (evCall kl T (N + 3)) f__law_way_i2 [some (.ref 1), some (netV t l), some (iv s), some (.int steps), some (.int forks), some (.lst (mn.map iv)), none, none, some (.int 1), none, none, none] (bgm B X) =
          .nx [some (.ref 1), some (netV t l), some (iv s), some (.int steps), some (.int forks), some (.lst (mn.map iv)), none, none, some (iv k), none, none, none] (bgm B' X) := by
        simp only [f__law_way_i2]
        by_cases hf : 0 < forks
        · obtain ⟨k, B1, b1, hk, e⟩ := draw_n kl tD (N + 2) B hB X 3 (by decide) (by decide)
          by_cases hk0 : k = 0
          · obtain ⟨k2, B2, b2, hk2, e2⟩ := draw_n kl tD (N + 2) B1 b1 X 2 (by decide) (by decide)
            refine ⟨2 + k2, B2, b2, by omega, by omega, ?_⟩
            simp_all_arith! [hf, e, eq_true hk0, e2]
            simp
          · refine ⟨1, B1, b1, by omega, by omega, ?_⟩
            simp_all_arith! [hf, e, eq_false hk0]
            rfl
        · refine ⟨1, B, hB, by omega, by omega, ?_⟩
          simp_all_arith! [eq_false hf]
          rfl
      obtain ⟨k, B1, b1, k1, k3, e2⟩ := i2
      obtain ⟨mx, B2, b2, pm, e3⟩ := mixed_ok kl tD tM (N + 1) B1 b1 (X ++ [.lst []]) (mn.map iv) (pure_iv _) (by rw [List.length_map]; omega)
      obtain ⟨ms, rfl, pm2⟩ := perm_iv pm
      let L := (ms.take k).mergeSort fun a b => decide (a ≤ b)
      have L1 : ∀ x ∈ L, (s, x) ∈ l := fun x hx => mem_mn x (pm2.subset (List.mem_of_mem_take ((List.mergeSort_perm _ _).subset hx)))
      have L2 : L.Pairwise (· < ·) := sorted_lt ((pm2.nodup_iff.mpr nd_mn).sublist (List.take_sublist _ _))
      have L3 : L.length ≤ 3 := by
        have := (List.mergeSort_perm (ms.take k) fun a b => decide (a ≤ b)).length_eq
        rw [List.length_take] at this
        exact Nat.le_trans (Nat.le_of_eq this) (by omega)
      let σ := fun (r : Int) (o11 : Option Vl) => [some (.ref 1), some (netV t l), some (iv s), some (.int steps), some (.int forks), some (.lst (mn.map iv)), none, none, some (iv k), some (.ref (X.length + 2)), some (.int r), o11]
      let mem := fun (B : Bag) (f : List Way) => bgm B (X ++ [.lst (f.map wv)])
      have body : ∀ (B : Bag) (f : List Way) (r : Int) (x : Nat), B.Ok → x < m → r ≤ d → f.length < 100 → ∃ (r' : Int) (B' : Bag) (w : Way), r' ≤ d ∧ B'.Ok ∧ w.s = x ∧ WayOk m l d w ∧
          evSs kl (evCall kl T (N + 3)) f__law_way_b1 (σ r (some (iv x))) (mem B f) = .nx (σ r' (some (iv x))) (mem B' (f ++ [w])) := by
        intro B f r x hB hx hr hf
        have hf' : f.length < PySem.sizeLine := by omega
        have i1 : ∃ (r' : Int) (B' : Bag), B'.Ok ∧ r' ≤ d ∧ evS kl (evCall kl T (N + 3)) f__law_way_i1 (σ r (some (iv x))) (mem B f) = .nx (σ r' (some (iv x))) (mem B' f) := by
          simp only [f__law_way_i1, σ, mem]
          by_cases hk : (1 : Int) < k
          · obtain ⟨j, B1, b1, hj, e⟩ := draw_n kl tD (N + 2) B hB (X ++ [.lst (f.map wv)]) 3 (by decide) (by decide)
            by_cases hj0 : j = 0
            · refine ⟨r - 1, B1, b1, by omega, ?_⟩
              simp_all_arith! [hk, e, eq_true hj0]
            · refine ⟨r, B1, b1, by omega, ?_⟩
              simp_all_arith! [hk, e, eq_false hj0]
          · refine ⟨r, B, hB, by omega, ?_⟩
            simp_all_arith! [eq_false hk]
        obtain ⟨r', B1, b1, hr', e1⟩ := i1
        obtain ⟨w, B2, b2, w1, w2, e2⟩ := ih B1 b1 (X ++ [.lst (f.map wv)]) x r' (forks - if decide ((1 : Int) < k) = true then 1 else 0) hx hr'
        refine ⟨r', B2, w, hr', b2, w1, w2, ?_⟩
        simp only [σ, mem] at e1
        simp only [f__law_way_b1, σ, mem]
        simp_all_arith! [e1, e2, hf']
      have loop : ∃ (f : List Way) (r' : Int) (o11 : Option Vl) (B' : Bag), B'.Ok ∧ f.map Way.s = L ∧ (∀ w ∈ f, WayOk m l d w) ∧
          evS kl (evCall kl T (N + 3)) f__law_way_l1 (σ (steps - 1) none) (mem B1 []) = .nx (σ r' o11) (mem B' f) := by
        have e0 : evS kl (evCall kl T (N + 3)) f__law_way_l1 (σ (steps - 1) none) (mem B1 []) = forL (fun x σ M => bindT (.nm 11) x σ M) (fun σ M => evSs kl (evCall kl T (N + 3)) f__law_way_b1 σ M) [] (L.map iv) (σ (steps - 1) none) (mem B2 []) := by
          simp only [f__law_way_l1, σ, mem, List.map_nil]
          simp_all_arith! [e3, cutL_take, ← List.map_take, canSort_iv, sortV_iv]
          rfl
        rw [e0]
        refine forL_inv (Q := fun r => ∃ (f : List Way) (r' : Int) (o11 : Option Vl) (B' : Bag), B'.Ok ∧ f.map Way.s = L ∧ (∀ w ∈ f, WayOk m l d w) ∧ r = .nx (σ r' o11) (mem B' f))
          (fun k σ' M' => ∃ (f : List Way) (r' : Int) (o11 : Option Vl) (B' : Bag), B'.Ok ∧ f.map Way.s = L.take k ∧ (∀ w ∈ f, WayOk m l d w) ∧ r' ≤ d ∧ σ' = σ r' o11 ∧ M' = mem B' f) ?_ ?_ ?_ ?_
        · exact ⟨[], steps - 1, none, B2, b2, by simp, by simp, by omega, rfl, rfl⟩
        · exact fun _ _ _ _ _ => trivial
        · rintro j hj _ _ ⟨f, r', o11, B', b', f1, f2, hr, rfl, rfl⟩
          have hj' : j < L.length := by simpa using hj
          have hx := L1 L[j] (List.getElem_mem hj')
          have fl : f.length < 100 := by
            have := congrArg List.length f1
            rw [List.length_map, List.length_take] at this
            omega
          obtain ⟨r2, B3, w, g1, g2, g3, g4, g5⟩ := body B' f r' L[j] b' (lo.lt _ hx).2 hr fl
          refine ⟨σ r' (some (iv L[j])), by simp [bindT, σ], ?_⟩
          show Stp _ _ (evSs kl (evCall kl T (N + 3)) f__law_way_b1 _ _)
          rw [g5]
          refine ⟨f ++ [w], r2, _, B3, g2, ?_, ?_, g1, rfl, rfl⟩
          · rw [List.map_append, f1, List.map_singleton, g3, List.take_append_getElem]
          · intro v hv
            rcases List.mem_append.mp hv with q | q
            · exact f2 v q
            · rw [List.mem_singleton.mp q]; exact g4
        · rintro _ _ ⟨f, r', o11, B', b', f1, f2, hr, rfl, rfl⟩
          exact ⟨f, r', o11, B', b', by rw [f1, List.length_map, List.take_length], f2, rfl⟩
      obtain ⟨f, r', o11, B3, b3, f1, f2, e4⟩ := loop
      refine ⟨.mk s f, B3, b3, rfl, ⟨hs, ?_, ?_, ?_⟩, ?_⟩
      · have := congrArg List.length f1
        rw [List.length_map] at this
        simp only [Way.f]; omega
      · simp only [Way.f]; rw [f1]; exact L2
      · intro c hc
        have : c.s ∈ L := by rw [← f1]; exact List.mem_map_of_mem hc
        exact ⟨L1 _ this, f2 c hc⟩
      · rw [hn, call_of tW rfl]
        simp only [f__law_way]
        simp only [σ, mem, List.map_nil] at e4
        simp_all_arith! [c1, hk1, hmn, em, pure_iv, e2, e4]
        rw [← wv_mk]
        exact leave_bgm (below_pure _ (pure_wv _))
end
/-! ### how many stand at each station -/
def atS (s : Nat) : Option Way → Bool
  | some w => decide (w.s = s)
  | none => false
def cnt (st : List (Option Way)) (s : Nat) : Nat := st.countP (atS s)
def cnts (n : Nat) (st : List (Option Way)) : List Nat := (List.range n).map (cnt st)
theorem cnts_len (n : Nat) (st : List (Option Way)) : (cnts n st).length = n := by simp [cnts]
theorem cnts_get {n : Nat} {st : List (Option Way)} {s : Nat} (h : s < n) : (cnts n st)[s]? = some (cnt st s) := by simp [cnts, h]
theorem cnt_le (st : List (Option Way)) (s : Nat) : cnt st s ≤ st.length := List.countP_le_length
/-- all trains stand at stations -/
def InSt (n : Nat) (st : List (Option Way)) : Prop := ∀ w, some w ∈ st → w.s < n
theorem cnts_snoc_none (n : Nat) (st : List (Option Way)) : cnts n (st ++ [none]) = cnts n st := by
  simp [cnts, cnt, List.countP_append, atS]
theorem cnts_snoc_some {n : Nat} {st : List (Option Way)} {w : Way} (h : w.s < n) : cnts n (st ++ [some w]) = (cnts n st).set w.s (cnt st w.s + 1) := by
  refine List.ext_getElem (by simp [cnts]) fun i h1 h2 => ?_
  simp only [cnts, List.length_map, List.length_range] at h1
  simp only [cnts, List.getElem_map, List.getElem_range, List.getElem_set, cnt, List.countP_append, List.countP_singleton, atS]
  by_cases e : w.s = i
  · subst e; simp [cnt, atS]
  · simp [e]
section
variable (kl : Kls) {T : Tbl} (tC : T "_law_counts" = some f__law_counts)
include tC
theorem counts_ok (n : Nat) (M : Mm) (t : List Nat) (l : List (Nat × Nat)) (st : List (Option Way)) (hs : InSt t.length st) (ht : t.length < 1000) :
    evCall kl T (n + 1) "_law_counts" [netV t l, stV st] M = .ok (.lst ((cnts t.length st).map iv)) M := by
  have sl : PySem.sizeLine = 16777216 := by decide
  have c1 : evE kl (evCall kl T n) f__law_counts_c1 [some (netV t l), some (stV st), none, none, none] M = .ok (.ref M.length) (M ++ [.lst ((cnts t.length []).map iv)]) := by
    simp only [f__law_counts_c1]
    simp_all_arith! []
    rw [compI_map0 iv (fun _ => true) (fun _ => .int 0) t (fun a _ => ⟨_, rfl, by simp_arith [], fun _ => by simp_arith []⟩) (by omega)]
    simp_arith []
    congr 3
    rw [List.filter_eq_self.mpr (fun _ _ => rfl)]
    refine congrArg _ (List.ext_getElem (by simp [cnts]) fun i h1 h2 => by simp [cnts, cnt])
  have loop : ∃ o4, evS kl (evCall kl T n) f__law_counts_l1 [some (netV t l), some (stV st), some (.ref M.length), none, none] (M ++ [.lst ((cnts t.length []).map iv)]) =
      .nx [some (netV t l), some (stV st), some (.ref M.length), none, o4] (M ++ [.lst ((cnts t.length st).map iv)]) := by
    have e0 : evS kl (evCall kl T n) f__law_counts_l1 [some (netV t l), some (stV st), some (.ref M.length), none, none] (M ++ [.lst ((cnts t.length []).map iv)]) =
        forL (fun x σ M => bindT (.nm 4) x σ M) (fun σ M => evSs kl (evCall kl T n) f__law_counts_b1 σ M) [] (st.map ov) [some (netV t l), some (stV st), some (.ref M.length), none, none] (M ++ [.lst ((cnts t.length []).map iv)]) := by
      simp only [f__law_counts_l1]
      simp_all_arith! []
    rw [e0]
    refine forL_inv (Q := fun r => ∃ o4, r = .nx [some (netV t l), some (stV st), some (.ref M.length), none, o4] (M ++ [.lst ((cnts t.length st).map iv)]))
      (fun k σ' M' => ∃ o4, σ' = [some (netV t l), some (stV st), some (.ref M.length), none, o4] ∧ M' = M ++ [.lst ((cnts t.length (st.take k)).map iv)]) ?_ ?_ ?_ ?_
    · exact ⟨none, rfl, rfl⟩
    · exact fun _ _ _ _ _ => trivial
    · rintro k hk _ _ ⟨o4, rfl, rfl⟩
      have hk' : k < st.length := by simpa using hk
      rw [List.getElem_map]
      have tk : st.take (k + 1) = st.take k ++ [st[k]] := by rw [List.take_append_getElem]
      refine ⟨[some (netV t l), some (stV st), some (.ref M.length), none, some (ov st[k])], rfl, ?_⟩
      show Stp _ _ (evSs kl (evCall kl T n) f__law_counts_b1 _ _)
      rw [tk]
      cases hw : st[k] with
      | none =>
        simp only [f__law_counts_b1, ov]
        simp_arith []
        exact ⟨_, rfl, by rw [cnts_snoc_none]⟩
      | some w =>
        have hws : w.s < t.length := hs w (by rw [← hw]; exact List.getElem_mem hk')
        simp only [f__law_counts_b1, ov, wv_def]
        simp_all_arith! [place_nat, cnts_len, hws, List.getElem?_map, cnts_get]
        exact ⟨_, rfl, by rw [cnts_snoc_some hws, List.map_set]; rfl⟩
    · rintro _ _ ⟨o4, rfl, rfl⟩
      rw [List.length_map, List.take_length]
      exact ⟨o4, rfl⟩
  obtain ⟨o4, e⟩ := loop
  rw [call_of tC rfl]
  simp only [f__law_counts]
  simp_all_arith! [c1, e]
  exact leave_ref0 (belowL_pure _ (pure_iv _))
end
/-- a standing: right ways, no station has more trains than tracks -/
def StOk (m : Nat) (t : List Nat) (l : List (Nat × Nat)) (d : Nat) (st : List (Option Way)) : Prop := (∀ w, some w ∈ st → WayOk m l d w) ∧ ∀ s, s < m → cnt st s ≤ t.getD s 0
theorem StOk.inSt {m : Nat} {t : List Nat} {l : List (Nat × Nat)} {d : Nat} {st : List (Option Way)} (h : StOk m t l d st) : InSt m st := fun w hw => (h.1 w hw).s_lt
theorem cnt_somes (ws : List Way) (s : Nat) : cnt (ws.map some) s = (ws.map Way.s).count s := by
  simp only [cnt, List.countP_map, List.count, Function.comp_def, atS]
  exact List.countP_congr fun w _ => by simp
theorem cnt_insert (st : List (Option Way)) (i s : Nat) : cnt (st.take i ++ [none] ++ st.drop i) s = cnt st s := by
  have h : cnt st s = (st.take i).countP (atS s) + (st.drop i).countP (atS s) := by rw [← List.countP_append, List.take_append_drop]; rfl
  rw [h]
  simp [cnt, List.countP_append, atS]
section
variable (kl : Kls) {T : Tbl} (tD : T "_law_draw" = some f__law_draw) (tP : T "_law_pick" = some f__law_pick) (tM : T "_law_mixed" = some f__law_mixed) (tW : T "_law_way" = some f__law_way) (tS : T "_law_standing" = some f__law_standing)
include tD tP tM tW tS
theorem standing_ok (n : Nat) (t : List Nat) (l : List (Nat × Nat)) (m : Nat) (tl : t.length = m) (tb : ∀ x ∈ t, x ≤ 10) (lo : LinesOk m l) (hm : m < 100) (B : Bag) (hB : B.Ok) (X : Mm) (most : Nat) :
    ∃ (st : List (Option Way)) (B' : Bag), B'.Ok ∧ StOk m t l 4 st ∧ st.length ≤ most + 2 ∧ evCall kl T (n + 8) "_law_standing" [.ref 1, netV t l, .int most] (bgm B X) = .ok (stV st) (bgm B' X) := by
  have sl : PySem.sizeLine = 16777216 := by decide
  -- where trains may stand
  let σ1 := fun (sp : List Nat) (o4 o5 : Option Vl) => [some (.ref 1), some (netV t l), some (iv most), some (.lst (sp.map iv)), o4, o5, none, none]
  have spots : ∃ (sp : List Nat) (o4 o5 : Option Vl) (B' : Bag), B'.Ok ∧ sp.length ≤ 10 * m ∧ (∀ x ∈ sp, x < m) ∧ (∀ s, s < m → sp.count s ≤ t.getD s 0) ∧
      evS kl (evCall kl T (n + 7)) f__law_standing_l3 (σ1 [] none none) (bgm B X) = .nx (σ1 sp o4 o5) (bgm B' X) := by
    have e0 : evS kl (evCall kl T (n + 7)) f__law_standing_l3 (σ1 [] none none) (bgm B X) =
        forL (fun x σ M => bindT (.tp [4, 5]) x σ M) (fun σ M => evSs kl (evCall kl T (n + 7)) f__law_standing_b3 σ M) [] (t.zipIdx.map fun p => .tup [.int p.2, iv p.1]) (σ1 [] none none) (bgm B X) := by
      simp only [f__law_standing_l3, σ1]
      simp_all_arith! [enumV_map]
    rw [e0]
    refine forL_inv (Q := fun r => ∃ (sp : List Nat) (o4 o5 : Option Vl) (B' : Bag), B'.Ok ∧ sp.length ≤ 10 * m ∧ (∀ x ∈ sp, x < m) ∧ (∀ s, s < m → sp.count s ≤ t.getD s 0) ∧ r = .nx (σ1 sp o4 o5) (bgm B' X))
      (fun k σ' M' => ∃ (sp : List Nat) (o4 o5 : Option Vl) (B' : Bag), B'.Ok ∧ sp.length ≤ 10 * k ∧ (∀ x ∈ sp, x < k) ∧ (∀ s, s < k → sp.count s ≤ t.getD s 0) ∧ σ' = σ1 sp o4 o5 ∧ M' = bgm B' X) ?_ ?_ ?_ ?_
    · exact ⟨[], none, none, B, hB, by simp, by simp, by simp, rfl, rfl⟩
    · exact fun _ _ _ _ _ => trivial
    · rintro k hk _ _ ⟨sp, o4, o5, B1, b1, s1, s2, s3, rfl, rfl⟩
      have hk' : k < t.length := by simpa using hk
      have tk := tb t[k] (List.getElem_mem hk')
      have gk : t.getD k 0 = t[k] := by simp [List.getD, hk']
      refine ⟨σ1 sp (some (iv k)) (some (iv t[k])), by simp [bindT, σ1], ?_⟩
      show Stp _ _ (evSs kl (evCall kl T (n + 7)) f__law_standing_b3 _ _)
      obtain ⟨q, B2, b2, hq, e⟩ := draw_n kl tD (n + 6) B1 b1 X 4 (by decide) (by decide)
      obtain ⟨q2, B3, b3, hq2, e3⟩ := draw_n kl tD (n + 6) B2 b2 X (((t[k] : Nat) : Int) + 1) (by omega) (by omega)
      have fin : ∀ (j : Nat) (B : Bag), B.Ok → j ≤ t[k] → ∃ (sp' : List Nat) (o4 o5 : Option Vl) (B' : Bag), B'.Ok ∧ sp'.length ≤ 10 * (k + 1) ∧ (∀ x ∈ sp', x < k + 1) ∧ (∀ s, s < k + 1 → sp'.count s ≤ t.getD s 0) ∧
          σ1 (sp ++ List.replicate j k) (some (iv k)) (some (iv t[k])) = σ1 sp' o4 o5 ∧ bgm B X = bgm B' X := by
        intro j B hB hj
        refine ⟨_, _, _, B, hB, ?_, ?_, ?_, rfl, rfl⟩
        · simp only [List.length_append, List.length_replicate]; omega
        · intro x hx
          rcases List.mem_append.mp hx with h | h
          · have := s2 x h; omega
          · have := List.eq_of_mem_replicate h; omega
        · intro s hs
          rw [List.count_append, List.count_replicate]
          by_cases e : s = k
          · subst e
            have : sp.count s = 0 := List.count_eq_zero.mpr fun h => by have := s2 s h; omega
            simp only [this, gk, beq_self_eq_true, if_true, Nat.zero_add]
            exact hj
          · have : (k == s) = false := by simp; omega
            rw [if_neg (by rw [this]; exact Bool.false_ne_true), Nat.add_zero]
            exact s3 s (by omega)
      have rep : ∀ j : Nat, (List.replicate j [iv k]).flatten = (List.replicate j k).map iv := fun j => by
        induction j with
        | zero => rfl
        | succ j ih => simp [List.replicate_succ, ih]
      have mulk : ∀ (j : Nat) (M : Mm), j ≤ t[k] → mulV true (.lst [iv k]) (.int j) M = .ok (.lst ((List.replicate j k).map iv)) M := by
        intro j M hj
        have h1 : -(2 ^ 63) ≤ (j : Int) ∧ (j : Int) < 2 ^ 63 ∧ [iv k].length * (j : Int).toNat ≤ PySem.sizeLine := by
          simp only [List.length_singleton, Int.toNat_natCast]; omega
        simp only [mulV, rd_lst, rd_int]
        rw [if_pos h1]
        simp only [mkL_f, Int.toNat_natCast, rep]
      have adds : ∀ j : Nat, j ≤ t[k] → (sp.length + j ≤ PySem.sizeLine) = True := fun j hj => eq_true (by omega)
      simp only [f__law_standing_b3, σ1]
      by_cases hq0 : (0 : Int) < q
      · simp_all_arith! [e, hq0, mulk _ _ (Nat.le_refl _), List.length_replicate, adds _ (Nat.le_refl _)]
        have := fin t[k] B2 b2 (Nat.le_refl _)
        simp only [σ1, List.map_append] at this
        exact this
      · have hj : q2 ≤ t[k] := by omega
        simp_all_arith! [e, eq_false hq0, e3, mulk _ _ hj, List.length_replicate, adds _ hj]
        have := fin q2 B3 b3 hj
        simp only [σ1, List.map_append] at this
        exact this
    · rintro _ _ ⟨sp, o4, o5, B1, b1, s1, s2, s3, rfl, rfl⟩
      rw [List.length_map, List.length_zipIdx, tl] at s1 s2 s3
      exact ⟨sp, o4, o5, B1, b1, s1, s2, s3, rfl⟩
  obtain ⟨sp, o4, o5, B1, b1, s1, s2, s3, e1⟩ := spots
  obtain ⟨mx, B2, b2, pm, e2⟩ := mixed_ok kl tD tM (n + 5) B1 b1 (X ++ [.lst []]) (sp.map iv) (pure_iv _) (by rw [List.length_map]; omega)
  obtain ⟨ms, rfl, pm2⟩ := perm_iv pm
  let L := ms.take most
  have lL : L.length ≤ most := by simp only [L, List.length_take]; omega
  have lL2 : L.length ≤ 1000 := by
    have := pm2.length_eq
    simp only [L, List.length_take]; omega
  have L1 : ∀ x ∈ L, x < m := fun x hx => s2 x (pm2.subset (List.mem_of_mem_take hx))
  have L2 : ∀ s, s < m → L.count s ≤ t.getD s 0 := fun s hs => Nat.le_trans ((List.take_sublist _ _).count_le s) (by rw [pm2.count_eq]; exact s3 s hs)
  let σ := fun (o4 o7 : Option Vl) => [some (.ref 1), some (netV t l), some (iv most), some (.lst (sp.map iv)), o4, o5, some (.ref (X.length + 2)), o7]
  let mem := fun (B : Bag) (f : List (Option Way)) => bgm B (X ++ [.lst (f.map ov)])
  have ways : ∃ (ws : List Way) (p4 : Option Vl) (B' : Bag), B'.Ok ∧ ws.map Way.s = L ∧ (∀ w ∈ ws, WayOk m l 4 w) ∧ evS kl (evCall kl T (n + 7)) f__law_standing_l2 (σ o4 none) (mem B1 []) = .nx (σ p4 none) (mem B' (ws.map some)) := by
    have e0 : evS kl (evCall kl T (n + 7)) f__law_standing_l2 (σ o4 none) (mem B1 []) = forL (fun x σ M => bindT (.nm 4) x σ M) (fun σ M => evSs kl (evCall kl T (n + 7)) f__law_standing_b2 σ M) [] (L.map iv) (σ o4 none) (mem B2 []) := by
      simp only [f__law_standing_l2, σ, mem, List.map_nil]
      simp_all_arith! [e2, ← List.map_take]
      rfl
    rw [e0]
    refine forL_inv (Q := fun r => ∃ (ws : List Way) (p4 : Option Vl) (B' : Bag), B'.Ok ∧ ws.map Way.s = L ∧ (∀ w ∈ ws, WayOk m l 4 w) ∧ r = .nx (σ p4 none) (mem B' (ws.map some)))
      (fun k σ' M' => ∃ (ws : List Way) (p4 : Option Vl) (B' : Bag), B'.Ok ∧ ws.map Way.s = L.take k ∧ (∀ w ∈ ws, WayOk m l 4 w) ∧ σ' = σ p4 none ∧ M' = mem B' (ws.map some)) ?_ ?_ ?_ ?_
    · exact ⟨[], o4, B2, b2, by simp, by simp, rfl, rfl⟩
    · exact fun _ _ _ _ _ => trivial
    · rintro k hk _ _ ⟨ws, p4, B', b', w1, w2, rfl, rfl⟩
      have hk' : k < L.length := by simpa using hk
      have wl : ws.length < 100000 := by
        have := congrArg List.length w1
        rw [List.length_map, List.length_take] at this
        omega
      have wl2 : ws.length < PySem.sizeLine := by omega
      obtain ⟨v, B3, b3, hv, e3⟩ := pick_ok kl tD tP (n + 5) B' b' (X ++ [.lst ((ws.map some).map ov)]) [.int 0, .int 1, .int 1, .int 2, .int 2, .int 3, .int 4] (by decide) (by simp) (by decide)
      have hv' : ∃ q : Int, q ≤ 4 ∧ v = .int q := by
        simp only [List.mem_cons, List.not_mem_nil, or_false] at hv
        rcases hv with rfl | rfl | rfl | rfl | rfl | rfl | rfl <;> exact ⟨_, by decide, rfl⟩
      obtain ⟨q, hq, rfl⟩ := hv'
      obtain ⟨w, B4, b4, g1, g2, e4⟩ := way_ok kl tD tM tW n t l m lo hm 4 B3 b3 (X ++ [.lst ((ws.map some).map ov)]) L[k] q 1 (L1 _ (List.getElem_mem hk')) hq
      refine ⟨σ (some (iv L[k])) none, by simp [bindT, σ], ?_⟩
      show Stp _ _ (evSs kl (evCall kl T (n + 7)) f__law_standing_b2 _ _)
      simp only [f__law_standing_b2, σ, mem]
      simp_all_arith! [e3, e4, wl2]
      refine ⟨ws ++ [w], _, B4, b4, ?_, ?_, rfl, ?_⟩
      · rw [List.map_append, w1, List.map_singleton, g1, List.take_append_getElem]
      · intro u hu
        rcases List.mem_append.mp hu with h | h
        · exact w2 u h
        · rw [List.mem_singleton.mp h]; exact g2
      · simp [ov]
    · rintro _ _ ⟨ws, p4, B', b', w1, w2, rfl, rfl⟩
      exact ⟨ws, p4, B', b', by rw [w1, List.length_map, List.take_length], w2, rfl⟩
  obtain ⟨ws, p4, B3, b3, w1, w2, e3⟩ := ways
  have ok0 : StOk m t l 4 (ws.map some) := by
    refine ⟨fun w hw => ?_, fun s hs => ?_⟩
    · simp only [List.mem_map, Option.some.injEq, exists_eq_right] at hw
      exact w2 w hw
    · rw [cnt_somes, w1]
      exact L2 s hs
  have len0 : (ws.map some).length ≤ most ∧ (ws.map some).length ≤ 1000 := by
    have := congrArg List.length w1
    rw [List.length_map] at this
    rw [List.length_map]; omega
  obtain ⟨q, B4, b4, hq, e4⟩ := draw_n kl tD (n + 6) B3 b3 (X ++ [.lst ((ws.map some).map ov)]) 3 (by decide) (by decide)
  have turns : ∃ (st : List (Option Way)) (o7 : Option Vl) (B' : Bag), B'.Ok ∧ StOk m t l 4 st ∧ st.length ≤ most + 2 ∧ evS kl (evCall kl T (n + 7)) f__law_standing_l1 (σ p4 none) (mem B3 (ws.map some)) = .nx (σ p4 o7) (mem B' st) := by
    have e0 : evS kl (evCall kl T (n + 7)) f__law_standing_l1 (σ p4 none) (mem B3 (ws.map some)) = forL (fun x σ M => bindT (.nm 7) x σ M) (fun σ M => evSs kl (evCall kl T (n + 7)) f__law_standing_b1 σ M) [] ((List.range q).map iv) (σ p4 none) (mem B4 (ws.map some)) := by
      simp only [f__law_standing_l1, σ, mem]
      simp_all_arith! [e4, rngOk_nat (show q < 1000000000 by omega), rng_iv]
    rw [e0]
    refine forL_inv (Q := fun r => ∃ (st : List (Option Way)) (o7 : Option Vl) (B' : Bag), B'.Ok ∧ StOk m t l 4 st ∧ st.length ≤ most + 2 ∧ r = .nx (σ p4 o7) (mem B' st))
      (fun k σ' M' => ∃ (st : List (Option Way)) (o7 : Option Vl) (B' : Bag), B'.Ok ∧ StOk m t l 4 st ∧ st.length ≤ most + k ∧ st.length ≤ 1000 + k ∧ σ' = σ p4 o7 ∧ M' = mem B' st) ?_ ?_ ?_ ?_
    · exact ⟨ws.map some, none, B4, b4, ok0, by omega, by omega, rfl, rfl⟩
    · exact fun _ _ _ _ _ => trivial
    · rintro k hk _ _ ⟨st, o7, B', b', g1, g2, g3, rfl, rfl⟩
      have hk' : k < q := by simpa using hk
      obtain ⟨j, B5, b5, hj, e5⟩ := draw_n kl tD (n + 6) B' b' (X ++ [.lst (st.map ov)]) ((st.length : Int) + 1) (by omega) (by omega)
      refine ⟨σ p4 (some (iv k)), by simp [bindT, σ], ?_⟩
      show Stp _ _ (evSs kl (evCall kl T (n + 7)) f__law_standing_b1 _ _)
      have c1 : st.length < PySem.sizeLine := by omega
      have c2 : ((j : Int) < 2 ^ 63) = True := eq_true (by omega)
      simp only [f__law_standing_b1, σ, mem]
      simp_all_arith! [e5, c1, c2, Int.toNat_natCast, ← List.map_take, ← List.map_drop]
      have lj : (st.take j ++ [none] ++ st.drop j).length = st.length + 1 := by
        simp only [List.length_append, List.length_take, List.length_drop, List.length_singleton]; omega
      refine ⟨st.take j ++ [none] ++ st.drop j, _, B5, b5, ⟨fun w hw => g1.1 w ?_, fun s hs => ?_⟩, by omega, by omega, rfl, ?_⟩
      · simp only [List.mem_append, List.mem_singleton, reduceCtorEq, or_false] at hw
        rcases hw with h | h
        · exact List.mem_of_mem_take h
        · exact List.mem_of_mem_drop h
      · rw [cnt_insert]
        exact g1.2 s hs
      · simp [ov]
    · rintro _ _ ⟨st, o7, B', b', g1, g2, g3, rfl, rfl⟩
      have : (List.map iv (List.range q)).length ≤ 2 := by simp; omega
      exact ⟨st, o7, B', b', g1, by omega, rfl⟩
  obtain ⟨st, o7, B5, b5, g1, g2, e5⟩ := turns
  refine ⟨st, B5, b5, g1, g2, ?_⟩
  rw [call_of tS rfl]
  simp only [f__law_standing]
  simp only [σ1, σ, mem, List.map_nil] at e1 e3 e5
  simp_all_arith! [e1, e3, e5]
  exact leave_bgm (below_pure _ (pure_st _))
end
end Sx
end

section
set_option Elab.async false
set_option linter.all false
set_option maxRecDepth 100000
/-! Sg, part 34: the program: standings, lots. -/
namespace Sx
open Sg
open PySem (Str PyData)
local macro_rules
| `(tactic| simp_arith [$ls,*]) => `(tactic| simp (config := { decide := false, implicitDefEqProofs := false }) only [↓e_var, ↓e_cst, ↓e_glb, ↓e_tup,
    ↓e_lst, ↓e_dct, ↓e_dic, ↓e_bin, ↓e_neg, ↓e_not, ↓e_and, ↓e_or, ↓e_cmp, ↓e_cmp2, ↓e_ite, ↓e_idx, ↓e_sl, ↓e_rev, ↓e_comp, ↓e_call, ↓e_callk, ↓e_bi,
    ↓e_src, ↓e_meth, ↓e_xfld, ↓e_xisi, ↓es_nil, ↓es_cons, ↓cs_nil, ↓cs_one, ↓oe_no, ↓oe_so, ↓sr_val, ↓sr_enum, ↓sr_zip, ↓sr_rng1, ↓sr_rng2, ↓s_expr,
    ↓s_set, ↓s_setT, ↓s_par, ↓s_setI, ↓s_augI, ↓s_augN, ↓s_ret, ↓s_retN, ↓s_ife, ↓s_for, ↓s_raise, ↓s_try, ↓s_pass, ↓s_brk, ↓s_cnt, ↓ss_nil, ↓ss_cons,
    ↓hs_nil, ↓hs_cons, ↓hs_none, evKs, bindI_ok, bindI_exc, bindI_bad, thnI_ok, thnI_exc, thnI_bad, sthnI_nx, sthnI_brk, sthnI_cnt, sthnI_ret,
    sthnI_exc, sthnI_bad, R.of_some, R.of_none, R.bind_ok, R.thn_ok, RS.thn_nx, List.getElem?_cons_zero, List.getElem?_cons_succ, List.set_cons_zero,
    List.set_cons_succ, Option.bind_some, Option.bind_none, Option.map_some, Option.map_none, id, varV_non, varV_bl, varV_int, varV_str, varV_tup,
    varV_lst, varV_ref, varV_scr, varV_dic, rd_dic, rd_non, rd_bl, rd_int, rd_str, rd_tup, rd_lst, rd_scr, seq_tup, seq_lst, seqLst_lst, tru_bl,
    tru_non, mkL_f, mkL_c, startS_def, List.map_cons, List.map_nil, List.cons_append, List.nil_append, List.replicate_succ, List.replicate_zero,
    Nat.sub_self, Nat.reduceSub, Nat.reduceAdd, bin2, addV, cmpV, eqR_P, eqP_int, inR_P, pureL_ints, pureL_nats, pureL_nil, pureL_cons, Bool.and_true,
    Bool.true_and, List.isEmpty_cons, List.isEmpty_nil, Bool.not_false, Bool.not_true, inP_ints, inP_nats, eqP_lnil, eqP_tnil, intsOf_map, rd_b1,
    rd_b2, pureV, setIV, augGet, methV, methL, setL, bindT, wipeS, List.foldr_cons, List.foldr_nil, setAll, intOf, slV, cutL_take, cutL_drop,
    cutL_drop1, cutL_take1, ordV, isNon, biV, keyOf_str, keyOf_int, lookK_cons, lookK_nil, idxV, rd_r, cellL, lt_line, getD_z, getD_s, Int.ofNat_inj,
    cast0, cast1, cast0', List.dropLast_concat, last_app, last_app', last_map, Nat.add_sub_cancel, Nat.zero_add, List.map_append, Int.ofNat_lt,
    Int.ofNat_le, Nat.reduceLT, List.zip_cons_cons, List.zip_nil_left, List.zip_nil_right, List.foldl_cons, List.foldl_nil, List.any_cons,
    List.any_nil, decide_true, decide_false, Bool.or_true, Bool.true_or, Bool.or_false, Bool.false_or, Bool.false_eq_true, place_zero, place_1,
    place_2, place_3, place_4, List.length_cons, List.length_map, List.length_append, List.length_nil, Option.some.injEq, Sum.inr.injEq, Sum.inl.injEq,
    Int.reduceLT, Int.reduceLE, true_and, and_true, and_self, List.isEmpty_map, reduceIte, reduceCtorEq, if_true, if_false, $ls,*])
local macro_rules
  | `(tactic| simp_all_arith [$ls,*]) => `(tactic| simp_arith [bgm_len, bgm_app, bgm_get0, bgm_get1, bgm_get2, bgm_set0, bgm_set1, bgm_set2, List.append_assoc, Nat.add_assoc, $ls,*])
local macro_rules
  | `(tactic| simp_arith! [$ls,*]) => `(tactic| simp_arith [varV_net, rd_net, get_app, get_app0, set_app, set_app0, List.append_assoc, Nat.add_assoc, $ls,*])
local macro_rules
  | `(tactic| simp_all_arith! [$ls,*]) => `(tactic| simp_arith! [varV_wv, rd_wv, varV_st, rd_st, bgm_len, bgm_app, bgm_get0, bgm_get1, bgm_get2, bgm_set0, bgm_set1, bgm_set2, $ls,*])
def f_trains_at_c1 : E := (.comp true (.var 2) (.tp [2, 3]) (.enum (.var 0)) (.cons (.and (.cmp .nisn (.var 3) (.cst .non)) (.cmp .eq (.idx (.var 3) (.cst (.int 0))) (.var 1))) .nil) [2, 3])
def f_trains_at : Fn := { np := 2, nl := 4, fz := true, body := (.cons (.ret (.bi .tuple (.cons f_trains_at_c1 .nil))) .nil) }
def f_free_tracks : Fn := { np := 3, nl := 3, fz := true, body := (.cons (.ret (.bin .sub true (.idx (.idx (.var 0) (.cst (.int 0))) (.var 2)) (.bi .len (.cons (.call "trains_at" (.cons (.var 1) (.cons (.var 2) .nil))) .nil)))) .nil) }
def f_wanted_b1 : Ss := (.cons (.ife (.cmp .lt (.idx (.var 2) (.var 7)) (.var 4)) (.cons (.setI (.var 3) (.var 7) (.cst .non)) .nil) .nil) .nil)
def f_wanted_l1 : S := (.for_ (.tp [7, 4]) (.enum (.idx (.var 0) (.cst (.int 0)))) f_wanted_b1)
def f_wanted_c1 : E := (.comp true (.idx (.var 6) (.cst (.int 0))) (.nm 6) (.val (.idx (.var 5) (.cst (.int 1)))) .nil [6])
def f_wanted_b2 : Ss := (.cons (.ife (.cmp .nisn (.var 5) (.cst .non)) (.cons (.augI (.var 2) (.idx (.var 5) (.cst (.int 0))) (.cst (.int 1))) (.cons (.ife (.cmp .eq (.idx (.var 5) (.cst (.int 1))) (.tup .nil)) (.cons (.setI (.var 3) (.idx (.var 5) (.cst (.int 0))) (.cst .non)) .nil) (.cons (.ife (.cmp .nisn (.idx (.var 3) (.idx (.var 5) (.cst (.int 0)))) (.cst .non)) (.cons (.expr (.meth .extend (.idx (.var 3) (.idx (.var 5) (.cst (.int 0)))) (.cons f_wanted_c1 .nil))) .nil) .nil) .nil)) .nil)) .nil) .nil)
def f_wanted_l2 : S := (.for_ (.nm 5) (.val (.var 1)) f_wanted_b2)
def f_wanted_c2 : E := (.comp false (.lst false .nil) (.nm 4) (.val (.idx (.var 0) (.cst (.int 0)))) .nil [4])
def f_wanted : Fn := { np := 2, nl := 8, fz := true, body := (.cons (.set 2 (.bin .mul false (.lst true (.cons (.cst (.int 0)) .nil)) (.bi .len (.cons (.idx (.var 0) (.cst (.int 0))) .nil)))) (.cons (.set 3 f_wanted_c2) (.cons f_wanted_l2 (.cons f_wanted_l1 (.cons (.ret (.var 3)) .nil))))) }
def f_greatest_lot_c1 : E := (.comp true (.var 7) (.nm 7) (.val (.idx (.var 2) (.var 4))) (.cons (.cmp .nin (.var 7) (.var 6)) .nil) [7])
def f_greatest_lot_c2 : E := (.comp true (.var 4) (.nm 4) (.val (.var 6)) (.cons (.cmp .eq f_greatest_lot_c1 (.lst true .nil)) .nil) [4])
def f_greatest_lot_b1 : Ss := (.cons (.set 6 (.var 3)) (.cons (.set 3 f_greatest_lot_c2) .nil))
def f_greatest_lot_l1 : S := (.while_ (.cmp .ne (.var 3) (.var 6)) f_greatest_lot_b1)
def f_greatest_lot_c3 : E := (.comp true (.var 4) (.tp [4, 5]) (.enum (.var 2)) (.cons (.cmp .nisn (.var 5) (.cst .non)) .nil) [4, 5])
def f_greatest_lot : Fn := { np := 2, nl := 8, fz := true, body := (.cons (.set 2 (.call "wanted" (.cons (.var 0) (.cons (.var 1) .nil)))) (.cons (.set 3 f_greatest_lot_c3) (.cons (.set 6 (.cst .non)) (.cons f_greatest_lot_l1 (.cons (.ret (.bi .tuple (.cons (.var 3) .nil))) .nil))))) }
/-! ### what trains want -/
def endAt (st : List (Option Way)) (s : Nat) : Prop := ∃ w, some w ∈ st ∧ w.s = s ∧ w.f = []
def hd1 (s : Nat) : Option Way → List Nat
  | some w => if w.s = s then w.f.map Way.s else []
  | none => []
def hd (st : List (Option Way)) (s : Nat) : List Nat := st.flatMap (hd1 s)
open Classical in
noncomputable def wantN (t : List Nat) (st : List (Option Way)) (s : Nat) : Option (List Nat) := if endAt st s ∨ cnt st s < t.getD s 0 then none else some (hd st s)
def wantV : Option (List Nat) → Vl
  | none => .non
  | some l => .lst (l.map iv)
/-- small enough for lists -/
def SmallSt (st : List (Option Way)) : Prop := st.length ≤ 1000 ∧ ∀ w, some w ∈ st → w.f.length ≤ 1000
theorem WayOk.f_le {m : Nat} {l : List (Nat × Nat)} {d : Nat} {w : Way} (h : WayOk m l d w) : w.f.length ≤ 3 := by
  cases d with
  | zero => rw [h.2]; simp
  | succ d => exact h.2.1
section
variable (kl : Kls) {T : Tbl} (tWa : T "wanted" = some f_wanted)
include tWa
open Classical in
theorem wanted_ok (n : Nat) (M : Mm) (t : List Nat) (l : List (Nat × Nat)) (st : List (Option Way)) (hs : InSt t.length st) (ht : t.length ≤ 1000) (sm : SmallSt st) :
    evCall kl T (n + 1) "wanted" [netV t l, stV st] M = .ok (.lst ((List.range t.length).map fun s => wantV (wantN t st s))) M := by
  have sl : PySem.sizeLine = 16777216 := by decide
  let N := t.length
  let Y := fun (cs : List Nat) (hs : List (List Nat)) (fs : List Vl) => (Cl.lst (cs.map iv)) :: (hs.map (fun h => Cl.lst (h.map iv)) ++ [Cl.lst fs])
  let σ := fun (o4 o5 o7 : Option Vl) => [some (netV t l), some (stV st), some (.ref M.length), some (.ref (M.length + (N + 1))), o4, o5, none, o7]
  have Y0 : ∀ cs hs fs, (Y cs hs fs)[0]? = some (.lst (cs.map iv)) := fun _ _ _ => rfl
  have Yh : ∀ cs hs fs i (h : i < hs.length), (Y cs hs fs)[i + 1]? = some (.lst ((hs[i]).map iv)) := fun cs hs fs i h => by
    simp only [Y, List.getElem?_cons_succ]
    rw [List.getElem?_append_left (by simpa using h)]
    simp [h]
  have Yf : ∀ cs hs fs, hs.length = N → (Y cs hs fs)[N + 1]? = some (.lst fs) := fun cs hs fs h => by
    simp only [Y, List.getElem?_cons_succ]
    rw [List.getElem?_append_right (by simp [h])]
    simp [h]
  have S0 : ∀ cs hs fs cs', (Y cs hs fs).set 0 (.lst (cs'.map iv)) = Y cs' hs fs := fun _ _ _ _ => rfl
  have Sh : ∀ cs hs fs i h', i < hs.length → (Y cs hs fs).set (i + 1) (.lst (h'.map iv)) = Y cs (hs.set i h') fs := fun cs hs fs i h' h => by
    simp only [Y, List.set_cons_succ]
    rw [List.set_append_left _ _ (by simpa using h), List.map_set]
  have Sf : ∀ cs hs fs fs', hs.length = N → (Y cs hs fs).set (N + 1) (.lst fs') = Y cs hs fs' := fun cs hs fs fs' h => by
    simp only [Y, List.set_cons_succ]
    rw [List.set_append_right _ _ (by simp [h])]
    simp [h]
  let refs := fun (st : List (Option Way)) => (List.range N).map fun i => if endAt st i then Vl.non else .ref (M.length + (i + 1))
  -- the beginning
  have c2 : evE kl (evCall kl T n) f_wanted_c2 [some (netV t l), some (stV st), some (.ref M.length), none, none, none, none, none] (M ++ [.lst ((cnts N []).map iv)]) =
      .ok (.ref (M.length + (N + 1))) (M ++ Y (cnts N []) (List.replicate N []) (refs [])) := by
    simp only [f_wanted_c2]
    simp_all_arith! []
    obtain ⟨ws, M', e, h1, h2⟩ := compI_inv (bd := fun x σ M => bindT (.nm 4) x σ M) (c := fun σ M => evCs kl (evCall kl T n) .nil σ M) (el := fun σ M => evE kl (evCall kl T n) (.lst false .nil) σ M) (g := [])
      (σ := [some (netV t l), some (stV st), some (.ref M.length), none, none, none, none, none]) (l := t.map iv) (M := M ++ [.lst ((cnts N []).map iv)])
      (fun k acc M' => acc = ((List.range k).map fun i => Vl.ref (M.length + (i + 1))) ∧ M' = M ++ (.lst ((cnts N []).map iv) :: List.replicate k (.lst []))) ⟨rfl, rfl⟩ (fun _ _ _ _ _ => trivial) (by
        rintro k hk _ _ ⟨rfl, rfl⟩
        have hk' : k < t.length := by simpa using hk
        refine ⟨_, true, _, rfl, rfl, fun _ => ⟨.ref (M.length + (k + 1)), M ++ (.lst ((cnts N []).map iv) :: List.replicate (k + 1) (.lst [])), ?_, ?_, ?_, ?_⟩, fun h => by cases h⟩
        · have r : List.replicate k (Cl.lst []) ++ [Cl.lst []] = Cl.lst [] :: List.replicate k (Cl.lst []) := by rw [← List.replicate_succ', List.replicate_succ]
          simp_all_arith! [List.length_replicate, r]
        · simp only [List.length_map, List.length_range]; omega
        · rw [List.range_succ, List.map_append]; rfl
        · rfl)
    rw [e]
    subst h1 h2
    have rn : refs [] = (List.range N).map fun i => .ref (M.length + (i + 1)) := by
      refine List.map_congr_left fun i _ => ?_
      rw [if_neg]
      rintro ⟨w, hw, _⟩
      cases hw
    have rh : List.map (fun h : List Nat => Cl.lst (h.map iv)) (List.replicate N []) = List.replicate N (.lst []) := by simp
    simp only [bindI_ok, mkL_c, List.length_map, List.length_append, List.length_cons, List.length_replicate, Y, rn, rh, N, List.append_assoc, List.cons_append]
  have mul0 : mulV false (.lst [.int 0]) (.int N) M = .ok (.ref M.length) (M ++ [.lst ((cnts N []).map iv)]) := by
    have h1 : -(2 ^ 63) ≤ (N : Int) ∧ (N : Int) < 2 ^ 63 ∧ [Vl.int 0].length * (N : Int).toNat ≤ PySem.sizeLine := by
      simp only [List.length_singleton, Int.toNat_natCast, N]; omega
    simp only [mulV, rd_lst, rd_int]
    rw [if_pos h1, mkL_c]
    congr 3
    simp only [Int.toNat_natCast]
    congr 1
    have : cnts N [] = List.replicate N 0 := List.ext_getElem (by simp [cnts]) fun i h1 h2 => by simp [cnts, cnt]
    rw [this]
    generalize N = k
    induction k with
    | zero => rfl
    | succ k ih => simp only [List.replicate_succ, List.flatten_cons, List.map_cons, ih]; rfl
  -- one train
  have smH : ∀ s, ∀ o ∈ st, (hd1 s o).length ≤ 1000 := fun s o ho => by
    cases o with
    | none => simp [hd1]
    | some w =>
      simp only [hd1]
      split
      · rw [List.length_map]; exact sm.2 w ho
      · simp
  have loop1 : ∃ o5 hs', hs'.length = N ∧ (∀ i (h : i < hs'.length), ¬ endAt st i → hs'[i] = hd st i) ∧
      evS kl (evCall kl T n) f_wanted_l2 (σ none none none) (M ++ Y (cnts N []) (List.replicate N []) (refs [])) = .nx (σ none o5 none) (M ++ Y (cnts N st) hs' (refs st)) := by
    have e0 : evS kl (evCall kl T n) f_wanted_l2 (σ none none none) (M ++ Y (cnts N []) (List.replicate N []) (refs [])) =
        forL (fun x σ M => bindT (.nm 5) x σ M) (fun σ M => evSs kl (evCall kl T n) f_wanted_b2 σ M) [] (st.map ov) (σ none none none) (M ++ Y (cnts N []) (List.replicate N []) (refs [])) := by
      simp only [f_wanted_l2, σ]
      simp_all_arith! []
    rw [e0]
    refine forL_inv (Q := fun r => ∃ o5 hs', hs'.length = N ∧ (∀ i (h : i < hs'.length), ¬ endAt st i → hs'[i] = hd st i) ∧ r = .nx (σ none o5 none) (M ++ Y (cnts N st) hs' (refs st)))
      (fun k σ' M' => ∃ o5 hs', hs'.length = N ∧ (∀ h ∈ hs', h.length ≤ 1000 * k) ∧ (∀ i (h : i < hs'.length), ¬ endAt (st.take k) i → hs'[i] = hd (st.take k) i) ∧ σ' = σ none o5 none ∧ M' = M ++ Y (cnts N (st.take k)) hs' (refs (st.take k))) ?_ ?_ ?_ ?_
    · exact ⟨none, List.replicate N [], by simp, by simp, by simp [hd], rfl, rfl⟩
    · exact fun _ _ _ _ _ => trivial
    · rintro k hk _ _ ⟨o5, hs', h1, h2, h3, rfl, rfl⟩
      have hk' : k < st.length := by simpa using hk
      have kst := sm.1
      rw [List.getElem_map]
      have tk : st.take (k + 1) = st.take k ++ [st[k]] := by rw [List.take_append_getElem]
      refine ⟨σ none (some (ov st[k])) none, rfl, ?_⟩
      show Stp _ _ (evSs kl (evCall kl T n) f_wanted_b2 _ _)
      rw [tk]
      cases hw : st[k] with
      | none =>
        have q1 : refs (st.take k ++ [none]) = refs (st.take k) := by
          refine List.map_congr_left fun i _ => ?_
          have : endAt (st.take k ++ [none]) i ↔ endAt (st.take k) i := by simp [endAt]
          simp only [this]
        simp only [f_wanted_b2, ov, σ]
        simp_arith []
        refine ⟨_, hs', h1, fun h hh => Nat.le_trans (h2 h hh) (by omega), fun i h hn => ?_, rfl, by rw [cnts_snoc_none, q1]⟩
        rw [h3 i h (fun ⟨w, a, b⟩ => hn ⟨w, by simp [a], b⟩)]
        simp [hd, hd1]
      | some w =>
        have hwm : some w ∈ st := by rw [← hw]; exact List.getElem_mem hk'
        have hws : w.s < N := hs w hwm
        have wl := sm.2 w hwm
        have hsl : w.s < hs'.length := by omega
        have hsb := h2 hs'[w.s] (List.getElem_mem hsl)
        have hlen : (hs'[w.s]).length + (w.f).length ≤ PySem.sizeLine := by
          have := Nat.mul_le_mul_left 1000 (show k ≤ 1000 by omega)
          omega
        have endS : endAt (st.take k ++ [some w]) w.s ↔ endAt (st.take k) w.s ∨ w.f = [] := by
          constructor
          · rintro ⟨v, hv, e1, e2⟩
            simp only [List.mem_append, List.mem_singleton, Option.some.injEq] at hv
            rcases hv with h | rfl
            · exact .inl ⟨v, h, e1, e2⟩
            · exact .inr e2
          · rintro (⟨v, hv, e1, e2⟩ | h)
            · exact ⟨v, by simp [hv], e1, e2⟩
            · exact ⟨w, by simp, rfl, h⟩
        have endO : ∀ i, i ≠ w.s → (endAt (st.take k ++ [some w]) i ↔ endAt (st.take k) i) := by
          intro i hi
          constructor
          · rintro ⟨v, hv, e1, e2⟩
            simp only [List.mem_append, List.mem_singleton, Option.some.injEq] at hv
            rcases hv with h | rfl
            · exact ⟨v, h, e1, e2⟩
            · exact absurd e1.symm hi
          · rintro ⟨v, hv, e1, e2⟩
            exact ⟨v, by simp [hv], e1, e2⟩
        have hdS : hd (st.take k ++ [some w]) w.s = hd (st.take k) w.s ++ w.f.map Way.s := by simp [hd, hd1]
        have hdO : ∀ i, i ≠ w.s → hd (st.take k ++ [some w]) i = hd (st.take k) i := fun i hi => by simp [hd, hd1, Ne.symm hi]
        have fst_ : (refs (st.take k))[w.s]? = some (if endAt (st.take k) w.s then .non else .ref (M.length + (w.s + 1))) := by simp [refs, hws]
        have lrefs : ∀ st, (refs st).length = N := fun st => by simp [refs]
        have c1 : ∀ M2 o, evE kl (evCall kl T n) f_wanted_c1 [some (netV t l), some (stV st), some (.ref M.length), some (.ref (M.length + (N + 1))), none, some (.tup [iv w.s, .tup (w.f.map wv)]), none, o] M2 = .ok (.lst ((w.f.map Way.s).map iv)) M2 := by
          intro M2 o
          simp only [f_wanted_c1]
          simp_all_arith! []
          rw [compI_map0 wv (fun _ => true) (fun c => iv c.s) w.f ?_ (by omega)]
          · simp only [bindI_ok, mkL_f, List.map_map, Function.comp_def]
            rw [List.filter_eq_self.mpr (fun _ _ => rfl)]
          · intro c _
            refine ⟨_, rfl, by simp_arith [], fun _ => ?_⟩
            simp_arith [wv_def]
        have hset : ((cnts N (st.take k)).map iv).set w.s (.int ((cnt (st.take k) w.s : Int) + 1)) = (cnts N (st.take k ++ [some w])).map iv := by
          rw [cnts_snoc_some hws, List.map_set]; rfl
        have Yf' := fun cs fs => Yf cs hs' fs h1
        have Sf' := fun cs fs fs' => Sf cs hs' fs fs' h1
        have Yh' := fun cs fs => Yh cs hs' fs w.s hsl
        have c4 : (1000 * k ≤ 1000 * (k + 1)) := by omega
        by_cases hf : w.f = []
        · have q : (refs (st.take k)).set w.s .non = refs (st.take k ++ [some w]) := by
            refine List.ext_getElem (by simp [refs]) fun i g1 g2 => ?_
            rw [List.length_set, lrefs] at g1
            simp only [refs, List.getElem_set, List.getElem_map, List.getElem_range]
            by_cases e : w.s = i
            · subst e
              rw [if_pos rfl, if_pos (endS.mpr (.inr hf))]
            · rw [if_neg e]
              simp only [endO i (Ne.symm e)]
          simp only [f_wanted_b2, ov, σ, wv_def]
          simp_all_arith! [Y0, Yf', S0, Sf', place_nat, cnts_len, hws, List.getElem?_map, cnts_get, hset, hf, lrefs, q]
          refine ⟨_, hs', h1, fun h hh => Nat.le_trans (h2 h hh) c4, fun i h hn => ?_, rfl, rfl⟩
          have ne : i ≠ w.s := fun e => hn (e ▸ endS.mpr (.inr hf))
          rw [h3 i h (fun z => hn ((endO i ne).mpr z)), hdO i ne]
        · have fe : w.f.isEmpty = false := by cases q : w.f with | nil => exact absurd q hf | cons => rfl
          by_cases he : endAt (st.take k) w.s
          · have q : refs (st.take k) = refs (st.take k ++ [some w]) := by
              refine List.map_congr_left fun i _ => ?_
              by_cases e : i = w.s
              · subst e
                rw [if_pos he, if_pos (endS.mpr (.inl he))]
              · simp only [endO i e]
            rw [if_pos he] at fst_
            simp only [f_wanted_b2, ov, σ, wv_def]
            simp_all_arith! [Y0, Yf', S0, Sf', place_nat, cnts_len, hws, List.getElem?_map, cnts_get, hset, pure_wvm, fe, lrefs, fst_]
            refine ⟨_, hs', h1, fun h hh => Nat.le_trans (h2 h hh) c4, fun i h hn => ?_, rfl, by rw [q]⟩
            have ne : i ≠ w.s := fun e => hn (e ▸ endS.mpr (.inl he))
            rw [h3 i h (fun z => hn ((endO i ne).mpr z)), hdO i ne]
          · have q : refs (st.take k) = refs (st.take k ++ [some w]) := by
              refine List.map_congr_left fun i _ => ?_
              by_cases e : i = w.s
              · subst e
                rw [if_neg he, if_neg (fun z => by rcases endS.mp z with z | z; exact he z; exact hf z)]
              · simp only [endO i e]
            rw [if_neg he] at fst_
            have Sh' : ∀ cs fs, (Y cs hs' fs).set (w.s + 1) (.lst (hs'[w.s].map iv ++ (w.f.map Way.s).map iv)) = Y cs (hs'.set w.s (hs'[w.s] ++ w.f.map Way.s)) fs := fun cs fs => by
              rw [← List.map_append]; exact Sh cs hs' fs w.s _ hsl
            simp only [f_wanted_b2, ov, σ, wv_def]
            simp_all_arith! [Y0, Yf', S0, Sf', place_nat, cnts_len, hws, List.getElem?_map, cnts_get, hset, pure_wvm, fe, lrefs, fst_, Yh', c1, hlen, Sh']
            refine ⟨_, hs'.set w.s (hs'[w.s] ++ w.f.map Way.s), by rw [List.length_set, h1], fun h hh => ?_, fun i h hn => ?_, rfl, by rw [q]⟩
            · rcases List.mem_or_eq_of_mem_set hh with z | z
              · exact Nat.le_trans (h2 h z) c4
              · rw [z, List.length_append, List.length_map]; omega
            · rw [List.length_set] at h
              by_cases e : i = w.s
              · subst e
                rw [List.getElem_set_self, hdS, h3 w.s h he]
              · rw [List.getElem_set_ne (Ne.symm e), h3 i h (fun z => hn ((endO i e).mpr z)), hdO i e]
    · rintro _ _ ⟨o5, hs', h1, h2, h3, rfl, rfl⟩
      rw [List.length_map, List.take_length] at *
      exact ⟨o5, hs', h1, h3, rfl⟩
  obtain ⟨o5, hs', h1, h2, e1⟩ := loop1
  let fin := fun (k : Nat) => (List.range N).map fun i => if endAt st i ∨ (i < k ∧ cnt st i < t.getD i 0) then Vl.non else .ref (M.length + (i + 1))
  have loop2 : ∃ o4 o7, evS kl (evCall kl T n) f_wanted_l1 (σ none o5 none) (M ++ Y (cnts N st) hs' (refs st)) = .nx (σ o4 o5 o7) (M ++ Y (cnts N st) hs' (fin N)) := by
    have e0 : evS kl (evCall kl T n) f_wanted_l1 (σ none o5 none) (M ++ Y (cnts N st) hs' (refs st)) =
        forL (fun x σ M => bindT (.tp [7, 4]) x σ M) (fun σ M => evSs kl (evCall kl T n) f_wanted_b1 σ M) [] (t.zipIdx.map fun p => .tup [.int p.2, iv p.1]) (σ none o5 none) (M ++ Y (cnts N st) hs' (refs st)) := by
      simp only [f_wanted_l1, σ]
      simp_all_arith! [enumV_map]
    rw [e0]
    refine forL_inv (Q := fun r => ∃ o4 o7, r = .nx (σ o4 o5 o7) (M ++ Y (cnts N st) hs' (fin N))) (fun k σ' M' => ∃ o4 o7, σ' = σ o4 o5 o7 ∧ M' = M ++ Y (cnts N st) hs' (fin k)) ?_ ?_ ?_ ?_
    · refine ⟨_, _, rfl, ?_⟩
      have : fin 0 = refs st := List.map_congr_left fun i _ => by simp
      rw [this]
    · exact fun _ _ _ _ _ => trivial
    · rintro k hk _ _ ⟨o4, o7, rfl, rfl⟩
      have hk' : k < N := by simpa using hk
      have hkt : k < t.length := hk'
      have lf : ∀ k, (fin k).length = N := fun k => by simp [fin]
      have gk : t.getD k 0 = t[k] := by simp [List.getD, hkt]
      refine ⟨σ (some (iv t[k])) o5 (some (iv k)), by simp [bindT, σ], ?_⟩
      show Stp _ _ (evSs kl (evCall kl T n) f_wanted_b1 _ _)
      have Yf' := fun cs fs => Yf cs hs' fs h1
      have Sf' := fun cs fs fs' => Sf cs hs' fs fs' h1
      simp only [f_wanted_b1, σ]
      by_cases hc : cnt st k < t[k]
      · have q : (fin k).set k .non = fin (k + 1) := by
          refine List.ext_getElem (by simp [fin]) fun i g1 g2 => ?_
          simp only [fin, List.getElem_set, List.getElem_map, List.getElem_range]
          by_cases e : k = i
          · subst e
            rw [if_pos rfl, if_pos (.inr ⟨by omega, by rw [gk]; exact hc⟩)]
          · rw [if_neg e]
            have : (i < k ∧ cnt st i < t.getD i 0) ↔ (i < k + 1 ∧ cnt st i < t.getD i 0) := by omega
            simp only [this]
        simp_all_arith! [Y0, Yf', Sf', place_nat, cnts_len, hk', List.getElem?_map, cnts_get, hc, lf, q]
        exact ⟨_, _, rfl, rfl⟩
      · have q : fin k = fin (k + 1) := by
          refine List.map_congr_left fun i _ => ?_
          have : (i < k ∧ cnt st i < t.getD i 0) ↔ (i < k + 1 ∧ cnt st i < t.getD i 0) := by
            by_cases e : i = k
            · subst e; rw [gk]; omega
            · omega
          simp only [this]
        simp_all_arith! [Y0, Yf', Sf', place_nat, cnts_len, hk', List.getElem?_map, cnts_get, eq_false hc, lf]
        exact ⟨_, _, rfl, by rw [q]⟩
    · rintro _ _ ⟨o4, o7, rfl, rfl⟩
      rw [List.length_map, List.length_zipIdx]
      exact ⟨o4, o7, rfl⟩
  obtain ⟨o4, o7, e2⟩ := loop2
  rw [call_of tWa rfl]
  simp only [f_wanted]
  simp only [σ, N] at e1 e2 c2 mul0
  simp_all_arith! [mul0, c2, e1, e2]
  have yf : (M ++ Y (cnts t.length st) hs' (fin t.length))[M.length + (t.length + 1)]? = some (.lst (fin t.length)) := by
    rw [get_app]; exact Yf _ _ _ h1
  have fz : (fin t.length).map (frz M.length (M ++ Y (cnts t.length st) hs' (fin t.length)) 5) = (List.range t.length).map fun s => wantV (wantN t st s) := by
    refine List.ext_getElem (by simp [fin, N]) fun i g1 g2 => ?_
    have hi : i < N := by simpa [fin] using g1
    simp only [fin, List.getElem_map, List.getElem_range, wantN]
    by_cases c : endAt st i ∨ cnt st i < t.getD i 0
    · rw [if_pos c, if_pos (c.imp id fun z => ⟨hi, z⟩)]
      exact frz_pure _ _ _ (by simp [below])
    · rw [if_neg c, if_neg fun z => c (z.imp id fun z => z.2)]
      have hi' : i < hs'.length := by omega
      refine frz_ref (by omega) (l := (hd st i).map iv) ?_ (frz_map (belowL_pure _ (pure_iv _)))
      rw [get_app, Yh _ _ _ i hi', h2 i hi' (fun z => c (.inl z))]
  have pl : pureL ((List.range t.length).map fun s => wantV (wantN t st s)) = true := by
    simp only [pureL_iff, List.mem_map]
    rintro x ⟨s, _, rfl⟩
    cases wantN t st s with
    | none => rfl
    | some q => simpa [wantV, pureV] using pure_iv q
  have fr : frz M.length (M ++ Y (cnts t.length st) hs' (fin t.length)) frzFuel (.ref (M.length + (t.length + 1))) = .lst ((List.range t.length).map fun s => wantV (wantN t st s)) := by
    have n1 : below M.length (.ref (M.length + (t.length + 1))) = false := by simp only [below, decide_eq_false_iff_not]; omega
    rw [show frzFuel = 5 + 1 from rfl]
    unfold frz
    simp only [n1, Bool.false_eq_true, if_false, yf, fz]
  have b : below M.length (.lst ((List.range t.length).map fun s => wantV (wantN t st s))) = true := by simpa [below] using belowL_pure M.length pl
  simp only [leave, leaveV, if_true, fr, keeps_refl, b, and_self, List.take_left']
end
/-! ### the greatest lot -/
theorem sub_filter {α : Type} [DecidableEq α] : ∀ {l L : List α}, l.Sublist L → L.Nodup → l = L.filter fun x => decide (x ∈ l)
  | _, _, .slnil, _ => rfl
  | l, a :: L, .cons _ h, nd => by
    have na : a ∉ l := fun z => (List.nodup_cons.mp nd).1 (h.subset z)
    rw [List.filter_cons, if_neg (by simpa using na)]
    exact sub_filter h (List.nodup_cons.mp nd).2
  | _ :: l, a :: L, .cons₂ _ h, nd => by
    have nd' := List.nodup_cons.mp nd
    rw [List.filter_cons, if_pos (by simp)]
    congr 1
    conv => lhs; rw [sub_filter h nd'.2]
    refine List.filter_congr fun x hx => ?_
    have : x ≠ a := fun e => nd'.1 (e ▸ hx)
    simp [this]
theorem sub_range {n : Nat} {l : List Nat} {P : Nat → Prop} [DecidablePred P] (h : l.Sublist (List.range n)) (q : ∀ s, s ∈ l ↔ s < n ∧ P s) : l = (List.range n).filter fun s => decide (P s) := by
  rw [sub_filter h List.nodup_range]
  refine List.filter_congr fun x hx => ?_
  have := q x
  rw [List.mem_range] at hx
  simp [this, hx]
theorem noBl_iv (l : List Nat) : noBl (.lst (l.map iv)) = true := by
  simp only [noBl_lst, List.all_map, List.all_eq_true]
  exact fun _ _ => rfl
theorem range_idx (n : Nat) : (List.range n).zipIdx = (List.range n).map fun i => (i, i) := List.ext_getElem (by simp) fun i h1 h2 => by simp
theorem dep_iv (l : List Nat) : depL (l.map iv) = 0 := by
  induction l with
  | nil => rfl
  | cons a r ih => simp [depL, dep, ih]
theorem eqP_iv (a b : List Nat) : eqP (.lst (a.map iv)) (.lst (b.map iv)) = some (decide (a = b)) := by
  have pa : pureV (.lst (a.map iv)) = true := by simpa [pureV] using pure_iv a
  have pb : pureV (.lst (b.map iv)) = true := by simpa [pureV] using pure_iv b
  rw [eqP_of pa pb (by simp [dep, dep_iv, depLine]), eqV_dec pa (noBl_iv a) (noBl_iv b)]
  congr 1
  rw [decide_eq_decide]
  constructor
  · intro h
    have h : a.map iv = b.map iv := by simpa using h
    exact (List.map_inj_right (fun x y e => Int.ofNat.inj (Vl.int.inj e))).mp h
  · rintro rfl; rfl
theorem eqP_ivn (a : List Nat) : eqP (.lst (a.map iv)) .non = some false := by
  have pa : pureV (.lst (a.map iv)) = true := by simpa [pureV] using pure_iv a
  rw [eqP_of pa rfl (by simp [dep, dep_iv, depLine])]
  rfl
/-- a closed lot -/
def Lot (t : List Nat) (st : List (Option Way)) (H : Nat → Prop) : Prop := ∀ s, H s → s < t.length ∧ ∃ row, wantN t st s = some row ∧ ∀ x ∈ row, H x
def InLot (t : List Nat) (st : List (Option Way)) (s : Nat) : Prop := ∃ H, Lot t st H ∧ H s
open Classical in
noncomputable def glot (t : List Nat) (st : List (Option Way)) : List Nat := (List.range t.length).filter fun s => decide (InLot t st s)
theorem glot_len (t : List Nat) (st : List (Option Way)) : (glot t st).length ≤ t.length := by
  have := List.length_filter_le (fun s => @decide (InLot t st s) (Classical.propDecidable _)) (List.range t.length)
  rw [List.length_range] at this
  exact this
theorem glot_lt {t : List Nat} {st : List (Option Way)} {s : Nat} (h : s ∈ glot t st) : s < t.length := List.mem_range.mp (List.mem_filter.mp h).1
theorem InLot.ex {t : List Nat} {st : List (Option Way)} {s : Nat} (h : InLot t st s) : s < t.length ∧ ∃ row, wantN t st s = some row ∧ ∀ x ∈ row, InLot t st x := by
  obtain ⟨H, hl, hs⟩ := h
  obtain ⟨h1, row, h2, h3⟩ := hl s hs
  exact ⟨h1, row, h2, fun x hx => ⟨H, hl, h3 x hx⟩⟩
section
variable (kl : Kls) {T : Tbl} (tWa : T "wanted" = some f_wanted) (tGl : T "greatest_lot" = some f_greatest_lot)
include tWa tGl
open Classical in
theorem greatest_ok (n : Nat) (M : Mm) (t : List Nat) (l : List (Nat × Nat)) (st : List (Option Way)) (hs : InSt t.length st) (ht : t.length ≤ 1000) (sm : SmallSt st) :
    evCall kl T (n + 2) "greatest_lot" [netV t l, stV st] M = .ok (.tup ((glot t st).map iv)) M := by
  have sl : PySem.sizeLine = 16777216 := by decide
  let tab : List Vl := (List.range t.length).map fun s => wantV (wantN t st s)
  have tabg : ∀ s, s < t.length → tab[s]? = some (wantV (wantN t st s)) := fun s h => by simp [tab, h]
  have ltab : tab.length = t.length := by simp [tab]
  let full : List Nat := (List.range t.length).filter fun s => (wantN t st s).isSome
  have rl : ∀ s row, wantN t st s = some row → row.length ≤ 1000000 := by
    intro s row h
    simp only [wantN] at h
    split at h
    · cases h
    · cases h
      have : ∀ st : List (Option Way), (∀ o ∈ st, (hd1 s o).length ≤ 1000) → (hd st s).length ≤ 1000 * st.length := by
        intro st h
        induction st with
        | nil => simp [hd]
        | cons a r ih =>
          have h1 := h a (by simp)
          have h2 := ih fun o ho => h o (by simp [ho])
          simp only [hd, List.flatMap_cons, List.length_append, List.length_cons] at h2 ⊢
          omega
      have q := this st fun o ho => by
        cases o with
        | none => simp [hd1]
        | some w =>
          simp only [hd1]
          split
          · rw [List.length_map]; exact sm.2 w ho
          · simp
      have := Nat.mul_le_mul_left 1000 sm.1
      omega
  have ew := wanted_ok kl tWa n M t l st hs ht sm
  have c3 : ∀ M : Mm, evE kl (evCall kl T (n + 1)) f_greatest_lot_c3 [some (netV t l), some (stV st), some (.lst tab), none, none, none, none, none] M = .ok (.lst (full.map iv)) M := by
    intro M
    simp only [f_greatest_lot_c3, tab]
    simp_all_arith! [enumV_map]
    rw [range_idx, List.map_map, compI_map0 _ (fun s => (wantN t st s).isSome) iv (List.range t.length) ?_ (by simp; omega)]
    · rfl
    · intro s _
      refine ⟨_, rfl, ?_, fun _ => by simp_arith []⟩
      cases wantN t st s with
      | none => simp_arith [wantV, Function.comp]; rfl
      | some r => simp_arith [wantV, Function.comp]; rfl
  let clo : List Nat → Nat → Bool := fun b s => match wantN t st s with | some row => row.all fun x => decide (x ∈ b) | none => false
  have c2 : ∀ (M : Mm) (b : List Nat) (o3 o4 o5 o7 : Option Vl), (∀ s ∈ b, s < t.length ∧ (wantN t st s).isSome = true) → b.length ≤ 1000 →
      evE kl (evCall kl T (n + 1)) f_greatest_lot_c2 [some (netV t l), some (stV st), some (.lst tab), o3, o4, o5, some (.lst (b.map iv)), o7] M = .ok (.lst ((b.filter (clo b)).map iv)) M := by
    intro M b o3 o4 o5 o7 hb hl
    simp only [f_greatest_lot_c2]
    simp_all_arith! []
    rw [compI_map0 iv (clo b) iv b ?_ (by omega)]
    · rfl
    · intro s hsb
      obtain ⟨h1, h2⟩ := hb s hsb
      refine ⟨_, rfl, ?_, fun _ => by simp_arith []⟩
      obtain ⟨row, hr⟩ := Option.isSome_iff_exists.mp h2
      have lr := rl s row hr
      have c1 : ∀ o3 o5 o7, evE kl (evCall kl T (n + 1)) f_greatest_lot_c1 [some (netV t l), some (stV st), some (.lst tab), o3, some (iv s), o5, some (.lst (b.map iv)), o7] M = .ok (.lst ((row.filter fun x => !decide (x ∈ b)).map iv)) M := by
        intro o3 o5 o7
        simp only [f_greatest_lot_c1]
        simp_all_arith! [place_nat, ltab, h1, tabg s h1, hr, wantV]
        rw [compI_map0 iv (fun x => !decide (x ∈ b)) iv row ?_ (by omega)]
        · rfl
        · intro x _
          exact ⟨_, rfl, by simp_arith [inP_iv], fun _ => by simp_arith []⟩
      have e : (((row.filter fun x => !decide (x ∈ b)).map iv).isEmpty) = clo b s := by
        simp only [clo, hr, List.isEmpty_map]
        rw [Bool.eq_iff_iff, List.isEmpty_iff, List.filter_eq_nil_iff, List.all_eq_true]
        simp
      rw [List.isEmpty_map] at e
      simp_arith [c1, pure_iv, e]
  -- the rounds
  let σ := fun (left : List Nat) (o4 o5 : Option Vl) (b : Vl) (o7 : Option Vl) => [some (netV t l), some (stV st), some (.lst tab), some (.lst (left.map iv)), o4, o5, some b, o7]
  have loop : ∃ b, evS kl (evCall kl T (n + 1)) f_greatest_lot_l1 (σ full none none .non none) M = .nx (σ (glot t st) none none b none) M := by
    have e0 : evS kl (evCall kl T (n + 1)) f_greatest_lot_l1 (σ full none none .non none) M = whileL (fun σ M => (evE kl (evCall kl T (n + 1)) (.cmp .ne (.var 3) (.var 6)) σ M).bind fun x M1 => R.of (tru M1 x) M1) (fun σ M => evSs kl (evCall kl T (n + 1)) f_greatest_lot_b1 σ M) wFuel (σ full none none .non none) M := by
      simp only [f_greatest_lot_l1, evS]
    rw [e0]
    have glin : ∀ s, s ∈ glot t st ↔ s < t.length ∧ InLot t st s := fun s => by simp [glot]
    have step : ∀ (m : Nat) (left : List Nat) (b : Vl), left.Sublist (List.range t.length) → (∀ s ∈ left, (wantN t st s).isSome = true) → (∀ s, InLot t st s → s ∈ left) → left.length < m →
        Stp (fun σ' M' => ∃ m', m' < m ∧ ∃ left b, left.Sublist (List.range t.length) ∧ (∀ s ∈ left, (wantN t st s).isSome = true) ∧ (∀ s, InLot t st s → s ∈ left) ∧
          ((b = .non ∧ left.length < m') ∨ ∃ bl : List Nat, b = .lst (bl.map iv) ∧ left = bl.filter (clo bl) ∧ bl.length ≤ m') ∧ σ' = σ left none none b none ∧ M' = M)
          (fun r => ∃ b, r = .nx (σ (glot t st) none none b none) M) (evSs kl (evCall kl T (n + 1)) f_greatest_lot_b1 (σ left none none b none) M) := by
      intro m left b h1 h2 h3 hm
      have hb : ∀ s ∈ left, s < t.length ∧ (wantN t st s).isSome = true := fun s q => ⟨List.mem_range.mp (h1.subset q), h2 s q⟩
      have ll := h1.length_le
      rw [List.length_range] at ll
      simp only [f_greatest_lot_b1, σ]
      simp_all_arith! [c2 M left _ _ _ _ hb (by omega)]
      refine ⟨left.length, hm, left.filter (clo left), .lst (left.map iv), List.filter_sublist.trans h1, fun s q => h2 s (List.mem_filter.mp q).1, fun s q => ?_, .inr ⟨left, rfl, rfl, Nat.le_refl _⟩, rfl, rfl⟩
      rw [List.mem_filter]
      obtain ⟨_, row, r1, r2⟩ := q.ex
      refine ⟨h3 s q, ?_⟩
      simp only [clo, r1, List.all_eq_true, decide_eq_true_eq]
      exact fun x hx => h3 x (r2 x hx)
    refine whileL_inv (Q := fun r => ∃ b, r = .nx (σ (glot t st) none none b none) M) (fun m σ' M' => ∃ left b, left.Sublist (List.range t.length) ∧ (∀ s ∈ left, (wantN t st s).isSome = true) ∧ (∀ s, InLot t st s → s ∈ left) ∧
          ((b = .non ∧ left.length < m) ∨ ∃ bl : List Nat, b = .lst (bl.map iv) ∧ left = bl.filter (clo bl) ∧ bl.length ≤ m) ∧ σ' = σ left none none b none ∧ M' = M) ?_ wFuel (t.length + 1) _ _ ?_ (by unfold wFuel; omega)
    · rintro m _ M0 ⟨left, b, h1, h2, h3, h4, rfl, rfl⟩
      rcases h4 with ⟨rfl, h4⟩ | ⟨bl, rfl, h4, h5⟩
      · refine ⟨true, M0, ?_, fun h => (by cases h), fun _ => step m left _ h1 h2 h3 h4⟩
        simp only [σ]
        simp_arith [eqP_ivn]
      · by_cases e : left = bl
        · refine ⟨false, M0, ?_, fun _ => ⟨.lst (bl.map iv), ?_⟩, fun h => by cases h⟩
          · simp only [σ]
            simp_arith [eqP_iv, e]
          · have : left = glot t st := by
              refine sub_range h1 fun s => ⟨fun q => ?_, fun q => h3 s q.2⟩
              refine ⟨List.mem_range.mp (h1.subset q), fun x => x ∈ left, fun x hx => ?_, q⟩
              refine ⟨List.mem_range.mp (h1.subset hx), ?_⟩
              rw [h4, List.mem_filter] at hx
              have hc := hx.2
              simp only [clo] at hc
              cases hr : wantN t st x with
              | none => rw [hr] at hc; cases hc
              | some row =>
                rw [hr] at hc
                refine ⟨row, rfl, fun y hy => ?_⟩
                have := List.all_eq_true.mp hc y hy
                rw [e]; simpa using this
            rw [this]
        · refine ⟨true, M0, ?_, fun h => (by cases h), fun _ => step m left _ h1 h2 h3 ?_⟩
          · simp only [σ]
            simp_arith [eqP_iv, e]
          · refine Nat.lt_of_lt_of_le ?_ h5
            have := List.length_filter_le (clo bl) bl
            rw [← h4] at this
            refine Nat.lt_of_le_of_ne this fun z => e ?_
            rw [h4] at z ⊢
            exact List.filter_eq_self.mpr (List.length_filter_eq_length_iff.mp z)
    · refine ⟨full, .non, List.filter_sublist, fun s q => (List.mem_filter.mp q).2, fun s q => ?_, .inl ⟨rfl, ?_⟩, rfl, rfl⟩
      · obtain ⟨a, row, r1, _⟩ := q.ex
        exact List.mem_filter.mpr ⟨List.mem_range.mpr a, by simp [r1]⟩
      · have := List.length_filter_le (fun s => (wantN t st s).isSome) (List.range t.length)
        rw [List.length_range] at this
        exact Nat.lt_succ_of_le this
  obtain ⟨b, e⟩ := loop
  rw [call_of tGl rfl]
  simp only [f_greatest_lot]
  simp only [σ, tab] at e c3
  simp_all_arith! [ew, c3, e]
  exact leave_ret0 (by simpa [below] using belowL_pure _ (pure_iv _))
end
end Sx
end

section
set_option Elab.async false
set_option linter.all false
set_option maxRecDepth 100000
/-! Sg, part 35: free tracks; the greatest lot by striking out. -/
namespace Sx
open Sg
open PySem (Str PyData)
local macro_rules
| `(tactic| simp_arith [$ls,*]) => `(tactic| simp (config := { decide := false, implicitDefEqProofs := false }) only [↓e_var, ↓e_cst, ↓e_glb, ↓e_tup,
    ↓e_lst, ↓e_dct, ↓e_dic, ↓e_bin, ↓e_neg, ↓e_not, ↓e_and, ↓e_or, ↓e_cmp, ↓e_cmp2, ↓e_ite, ↓e_idx, ↓e_sl, ↓e_rev, ↓e_comp, ↓e_call, ↓e_callk, ↓e_bi,
    ↓e_src, ↓e_meth, ↓e_xfld, ↓e_xisi, ↓es_nil, ↓es_cons, ↓cs_nil, ↓cs_one, ↓oe_no, ↓oe_so, ↓sr_val, ↓sr_enum, ↓sr_zip, ↓sr_rng1, ↓sr_rng2, ↓s_expr,
    ↓s_set, ↓s_setT, ↓s_par, ↓s_setI, ↓s_augI, ↓s_augN, ↓s_ret, ↓s_retN, ↓s_ife, ↓s_for, ↓s_raise, ↓s_try, ↓s_pass, ↓s_brk, ↓s_cnt, ↓ss_nil, ↓ss_cons,
    ↓hs_nil, ↓hs_cons, ↓hs_none, evKs, bindI_ok, bindI_exc, bindI_bad, thnI_ok, thnI_exc, thnI_bad, sthnI_nx, sthnI_brk, sthnI_cnt, sthnI_ret,
    sthnI_exc, sthnI_bad, R.of_some, R.of_none, R.bind_ok, R.thn_ok, RS.thn_nx, List.getElem?_cons_zero, List.getElem?_cons_succ, List.set_cons_zero,
    List.set_cons_succ, Option.bind_some, Option.bind_none, Option.map_some, Option.map_none, id, varV_non, varV_bl, varV_int, varV_str, varV_tup,
    varV_lst, varV_ref, varV_scr, varV_dic, rd_dic, rd_non, rd_bl, rd_int, rd_str, rd_tup, rd_lst, rd_scr, seq_tup, seq_lst, seqLst_lst, tru_bl,
    tru_non, mkL_f, mkL_c, startS_def, List.map_cons, List.map_nil, List.cons_append, List.nil_append, List.replicate_succ, List.replicate_zero,
    Nat.sub_self, Nat.reduceSub, Nat.reduceAdd, bin2, addV, cmpV, eqR_P, eqP_int, inR_P, pureL_ints, pureL_nats, pureL_nil, pureL_cons, Bool.and_true,
    Bool.true_and, List.isEmpty_cons, List.isEmpty_nil, Bool.not_false, Bool.not_true, inP_ints, inP_nats, eqP_lnil, eqP_tnil, intsOf_map, rd_b1,
    rd_b2, pureV, setIV, augGet, methV, methL, setL, bindT, wipeS, List.foldr_cons, List.foldr_nil, setAll, intOf, slV, cutL_take, cutL_drop,
    cutL_drop1, cutL_take1, ordV, isNon, biV, keyOf_str, keyOf_int, lookK_cons, lookK_nil, idxV, rd_r, cellL, lt_line, getD_z, getD_s, Int.ofNat_inj,
    cast0, cast1, cast0', List.dropLast_concat, last_app, last_app', last_map, Nat.add_sub_cancel, Nat.zero_add, List.map_append, Int.ofNat_lt,
    Int.ofNat_le, Nat.reduceLT, List.zip_cons_cons, List.zip_nil_left, List.zip_nil_right, List.foldl_cons, List.foldl_nil, List.any_cons,
    List.any_nil, decide_true, decide_false, Bool.or_true, Bool.true_or, Bool.or_false, Bool.false_or, Bool.false_eq_true, place_zero, place_1,
    place_2, place_3, place_4, List.length_cons, List.length_map, List.length_append, List.length_nil, Option.some.injEq, Sum.inr.injEq, Sum.inl.injEq,
    Int.reduceLT, Int.reduceLE, true_and, and_true, and_self, List.isEmpty_map, reduceIte, reduceCtorEq, if_true, if_false, $ls,*])
local macro_rules
  | `(tactic| simp_all_arith [$ls,*]) => `(tactic| simp_arith [bgm_len, bgm_app, bgm_get0, bgm_get1, bgm_get2, bgm_set0, bgm_set1, bgm_set2, List.append_assoc, Nat.add_assoc, $ls,*])
local macro_rules
  | `(tactic| simp_arith! [$ls,*]) => `(tactic| simp_arith [varV_net, rd_net, get_app, get_app0, set_app, set_app0, List.append_assoc, Nat.add_assoc, $ls,*])
local macro_rules
  | `(tactic| simp_all_arith! [$ls,*]) => `(tactic| simp_arith! [varV_wv, rd_wv, varV_st, rd_st, bgm_len, bgm_app, bgm_get0, bgm_get1, bgm_get2, bgm_set0, bgm_set1, bgm_set2, $ls,*])
/-! ### free tracks -/
def trainsAt (st : List (Option Way)) (s : Nat) : List Nat := (st.zipIdx.filter fun p => atS s p.1).map (·.2)
theorem trainsAt_len (st : List (Option Way)) (s : Nat) : (trainsAt st s).length = cnt st s := by
  have : ∀ (st : List (Option Way)) (k : Nat), ((st.zipIdx k).filter fun p => atS s p.1).length = cnt st s := by
    intro st
    induction st with
    | nil => intro k; rfl
    | cons a r ih =>
      intro k
      simp only [List.zipIdx_cons, List.filter_cons, cnt, List.countP_cons]
      have := ih (k + 1)
      by_cases h : atS s a = true
      · rw [if_pos h, if_pos h, List.length_cons, this]; rfl
      · rw [if_neg h, if_neg h, this]; rfl
  simpa [trainsAt] using this st 0
section
variable (kl : Kls) {T : Tbl} (tTa : T "trains_at" = some f_trains_at) (tFt : T "free_tracks" = some f_free_tracks)
include tTa
theorem trains_at_ok (n : Nat) (M : Mm) (st : List (Option Way)) (s : Nat) (sm : st.length ≤ 1000) :
    evCall kl T (n + 1) "trains_at" [stV st, iv s] M = .ok (.tup ((trainsAt st s).map iv)) M := by
  have sl : PySem.sizeLine = 16777216 := by decide
  have c1 : evE kl (evCall kl T n) f_trains_at_c1 [some (stV st), some (iv s), none, none] M = .ok (.lst ((trainsAt st s).map iv)) M := by
    simp only [f_trains_at_c1]
    simp_all_arith! [enumV_map]
    rw [compI_map0 (fun p : Option Way × Nat => Vl.tup [.int p.2, ov p.1]) (fun p => atS s p.1) (fun p => iv p.2) st.zipIdx ?_ (by simp; omega)]
    · simp only [bindI_ok, mkL_f, trainsAt, List.map_map, Function.comp_def]
    · rintro ⟨o, i⟩ _
      refine ⟨_, rfl, ?_, fun _ => by simp_arith []⟩
      cases o with
      | none => simp_arith [ov]; rfl
      | some w => simp_arith [ov, wv_def]; rfl
  rw [call_of tTa rfl]
  simp only [f_trains_at]
  simp_all_arith! [c1]
  exact leave_ret0 (by simpa [below] using belowL_pure _ (pure_iv _))
include tFt
theorem free_ok (n : Nat) (M : Mm) (t : List Nat) (l : List (Nat × Nat)) (st : List (Option Way)) (s : Nat) (hs : s < t.length) (sm : st.length ≤ 1000) :
    evCall kl T (n + 2) "free_tracks" [netV t l, stV st, iv s] M = .ok (.int ((t[s] : Int) - cnt st s)) M := by
  have g : t[s]? = some t[s] := List.getElem?_eq_getElem hs
  have e := trains_at_ok kl tTa n M st s sm
  rw [call_of tFt rfl]
  simp only [f_free_tracks]
  simp_all_arith! [place_nat, hs, List.getElem?_map, g, e, trainsAt_len]
  exact leave_ret0 (by simp [below])
end
/-! ### striking out -/
def f__law_struck_c1 : E := (.comp true (.var 8) (.nm 8) (.val (.var 7)) (.cons (.cmp .nin (.var 8) (.var 2)) .nil) [8])
def f__law_struck_c2 : E := (.comp true (.idx (.var 8) (.cst (.int 0))) (.nm 8) (.val (.idx (.var 6) (.cst (.int 1)))) .nil [8])
def f__law_struck_b1 : Ss := (.cons (.ife (.and (.cmp .nisn (.var 6) (.cst .non)) (.cmp .in_ (.idx (.var 6) (.cst (.int 0))) (.var 2))) (.cons (.set 7 f__law_struck_c2) (.cons (.ife (.or (.cmp .eq (.var 7) (.lst true .nil)) (.cmp .ne f__law_struck_c1 (.lst true .nil))) (.cons (.expr (.meth .remove (.var 2) (.cons (.idx (.var 6) (.cst (.int 0))) .nil))) (.cons (.set 5 (.cst (.bl true))) .nil)) .nil) .nil)) .nil) .nil)
def f__law_struck_l1 : S := (.for_ (.nm 6) (.val (.var 1)) f__law_struck_b1)
def f__law_struck_b2 : Ss := (.cons (.set 5 (.cst (.bl false))) (.cons f__law_struck_l1 .nil))
def f__law_struck_l2 : S := (.while_ (.var 5) f__law_struck_b2)
def f__law_struck_c3 : E := (.comp false (.var 3) (.tp [3, 4]) (.enum (.call "_law_counts" (.cons (.var 0) (.cons (.var 1) .nil)))) (.cons (.cmp .eq (.var 4) (.idx (.idx (.var 0) (.cst (.int 0))) (.var 3))) .nil) [3, 4])
def f__law_struck : Fn := { np := 2, nl := 9, fz := true, body := (.cons (.set 2 f__law_struck_c3) (.cons (.set 5 (.cst (.bl true))) (.cons f__law_struck_l2 (.cons (.ret (.bi .tuple (.cons (.var 2) .nil))) .nil)))) }
theorem intsOf_iv (l : List Nat) : intsOf (l.map iv) = some (l.map fun (k : Nat) => (k : Int)) := by
  have := intsOf_map (l.map fun (k : Nat) => (k : Int))
  rwa [List.map_map] at this
theorem erase_iv (l : List Nat) (s : Nat) : ((l.map fun (k : Nat) => (k : Int)).erase (s : Int)).map Vl.int = (l.erase s).map iv := by
  induction l with
  | nil => rfl
  | cons a r ih =>
    simp only [List.map_cons, List.erase_cons]
    by_cases h : a = s
    · subst h; simp
    · have h1 : (a == s) = false := by simpa using h
      have h2 : ((a : Int) == (s : Int)) = false := by simpa using (show ¬ (a : Int) = s by omega)
      rw [h1, h2]
      simp [ih]
/-- a train that can go on sooner or later -/
def Goes (H : List Nat) (w : Way) : Prop := w.f = [] ∨ ∃ c ∈ w.f, c.s ∉ H
section
variable (kl : Kls) {T : Tbl} (tC : T "_law_counts" = some f__law_counts) (tSt : T "_law_struck" = some f__law_struck)
include tC tSt
open Classical in
theorem struck_ok (n : Nat) (M : Mm) (t : List Nat) (l : List (Nat × Nat)) (st : List (Option Way)) (hs : InSt t.length st) (ht : t.length ≤ 999) (sm : SmallSt st) (hc : ∀ s, s < t.length → cnt st s ≤ t.getD s 0) :
    evCall kl T (n + 2) "_law_struck" [netV t l, stV st] M = .ok (.tup ((glot t st).map iv)) M := by
  have sl : PySem.sizeLine = 16777216 := by decide
  let σ := fun (on : Bool) (o6 o7 : Option Vl) => [some (netV t l), some (stV st), some (.ref M.length), none, none, some (.bl on), o6, o7, none]
  let mem := fun (H : List Nat) => M ++ [.lst (H.map iv)]
  let full : List Nat := (List.range t.length).filter fun s => decide (cnt st s = t.getD s 0)
  have ec := counts_ok kl tC n M t l st hs (by omega)
  have inl : ∀ s, InLot t st s → s ∈ full := by
    intro s h
    obtain ⟨h1, row, h2, _⟩ := h.ex
    refine List.mem_filter.mpr ⟨List.mem_range.mpr h1, ?_⟩
    simp only [wantN] at h2
    split at h2
    · cases h2
    · rename_i q
      have := hc s h1
      simp only [decide_eq_true_eq]
      omega
  have c3 : evE kl (evCall kl T (n + 1)) f__law_struck_c3 [some (netV t l), some (stV st), none, none, none, none, none, none, none] M = .ok (.ref M.length) (mem full) := by
    simp only [f__law_struck_c3]
    simp_all_arith! [ec, enumV_map]
    rw [show (cnts t.length st).zipIdx = (List.range t.length).map fun s => (cnt st s, s) from List.ext_getElem (by simp [cnts]) fun i h1 h2 => by simp [cnts], List.map_map, compI_map0 _ (fun s => decide (cnt st s = t.getD s 0)) iv (List.range t.length) ?_ (by simp; omega)]
    · rfl
    · intro s hs'
      have hs' : s < t.length := List.mem_range.mp hs'
      have g : t[s]? = some t[s] := List.getElem?_eq_getElem hs'
      have gd : t.getD s 0 = t[s] := by simp [List.getD, hs']
      refine ⟨_, rfl, ?_, fun _ => by simp_arith []⟩
      simp_arith [place_nat, hs', List.getElem?_map, g, gd]
  -- one train
  have body : ∀ (o : Option Way) (on : Bool) (o7 : Option Vl) (H : List Nat), o ∈ st → H.length ≤ 1000 →
      ∃ o7', evSs kl (evCall kl T (n + 1)) f__law_struck_b1 (σ on (some (ov o)) o7) (mem H) =
        if (∃ w, o = some w ∧ w.s ∈ H ∧ Goes H w) then .nx (σ true (some (ov o)) o7') (mem (H.erase ((o.map Way.s).getD 0))) else .nx (σ on (some (ov o)) o7') (mem H) := by
    intro o on o7 H ho hl
    cases o with
    | none =>
      refine ⟨o7, ?_⟩
      rw [if_neg (by rintro ⟨w, h, _⟩; cases h)]
      simp only [f__law_struck_b1, σ, mem]
      simp_all_arith! [ov]
    | some w =>
      have wl := sm.2 w ho
      by_cases h1 : w.s ∈ H
      · have c2 : ∀ o7 M', evE kl (evCall kl T (n + 1)) f__law_struck_c2 [some (netV t l), some (stV st), some (.ref M.length), none, none, some (.bl on), some (.tup [iv w.s, .tup (w.f.map wv)]), o7, none] M' = .ok (.lst ((w.f.map Way.s).map iv)) M' := by
          intro o7 M'
          simp only [f__law_struck_c2]
          simp_all_arith! []
          rw [compI_map0 wv (fun _ => true) (fun c => iv c.s) w.f ?_ (by omega)]
          · simp only [bindI_ok, mkL_f, List.map_map, Function.comp_def]
            rw [List.filter_eq_self.mpr (fun _ _ => rfl)]
          · intro c _
            refine ⟨_, rfl, by simp_arith [], fun _ => ?_⟩
            simp_arith [wv_def]
        have c1 : ∀ M', M'[M.length]? = some (.lst (H.map iv)) → evE kl (evCall kl T (n + 1)) f__law_struck_c1 [some (netV t l), some (stV st), some (.ref M.length), none, none, some (.bl on), some (.tup [iv w.s, .tup (w.f.map wv)]), some (.lst ((w.f.map Way.s).map iv)), none] M' = .ok (.lst (((w.f.map Way.s).filter fun x => !decide (x ∈ H)).map iv)) M' := by
          intro M' hM
          simp only [f__law_struck_c1]
          simp_all_arith! []
          rw [compI_map0 iv (fun x => !decide (x ∈ H)) iv (w.f.map Way.s) ?_ (by rw [List.length_map]; omega)]
          · rfl
          · intro x _
            exact ⟨_, rfl, by simp_arith [inP_iv, hM], fun _ => by simp_arith []⟩
        have c1' := c1 (M ++ [.lst (H.map iv)]) (by rw [get_app0]; rfl)
        refine ⟨some (.lst ((w.f.map Way.s).map iv)), ?_⟩
        simp only [f__law_struck_b1, σ, mem, ov, wv_def]
        by_cases h2 : w.f = []
        · rw [if_pos ⟨w, rfl, h1, .inl h2⟩]
          have e1 : ((w.f.map Way.s).map iv).isEmpty = true := by simp [h2]
          have h3 : (w.s : Int) ∈ H.map fun (k : Nat) => (k : Int) := List.mem_map.mpr ⟨w.s, h1, rfl⟩
          rw [List.isEmpty_map, List.isEmpty_map] at e1
          simp_all_arith! [inP_iv, h1, c2, pure_iv, e1, intsOf_iv, h3, erase_iv]
          rfl
        · have e1 : (w.f).isEmpty = false := by cases q : w.f with | nil => exact absurd q h2 | cons => rfl
          have h3 : (w.s : Int) ∈ H.map fun (k : Nat) => (k : Int) := List.mem_map.mpr ⟨w.s, h1, rfl⟩
          by_cases h4 : ∃ c ∈ w.f, c.s ∉ H
          · rw [if_pos ⟨w, rfl, h1, .inr h4⟩]
            have e2 : ((w.f.map Way.s).filter fun x => !decide (x ∈ H)).isEmpty = false := by
              obtain ⟨c, hc, hn⟩ := h4
              cases q : (w.f.map Way.s).filter fun x => !decide (x ∈ H) with
              | nil => exact absurd (List.filter_eq_nil_iff.mp q c.s (List.mem_map_of_mem hc)) (by simp [hn])
              | cons => rfl
            simp_all_arith! [inP_iv, h1, c2, pure_iv, e1, e2, c1', intsOf_iv, h3, erase_iv]
            rfl
          · rw [if_neg (by rintro ⟨v, h, _, g | g⟩; cases h; exact h2 g; cases h; exact h4 g)]
            have e2 : ((w.f.map Way.s).filter fun x => !decide (x ∈ H)).isEmpty = true := by
              rw [List.isEmpty_iff, List.filter_eq_nil_iff]
              intro x hx
              obtain ⟨c, hc, rfl⟩ := List.mem_map.mp hx
              have := Classical.byContradiction fun z => h4 ⟨c, hc, z⟩
              simp [this]
            simp_all_arith! [inP_iv, h1, c2, pure_iv, e1, e2, c1']
      · refine ⟨o7, ?_⟩
        rw [if_neg (by rintro ⟨v, h, h2, _⟩; cases h; exact h1 h2)]
        simp only [f__law_struck_b1, σ, mem, ov, wv_def]
        simp_all_arith! [inP_iv, h1]
  have step1 : ∀ (H0 : List Nat) (o6 o7 : Option Vl), H0.Sublist (List.range t.length) → (∀ s, InLot t st s → s ∈ H0) →
      ∃ on o6' o7' H, H.Sublist H0 ∧ (∀ s, InLot t st s → s ∈ H) ∧ (on = false → H = H0 ∧ ∀ w, some w ∈ st → w.s ∈ H0 → ¬ Goes H0 w) ∧ (on = true → H.length < H0.length) ∧
        evS kl (evCall kl T (n + 1)) f__law_struck_l1 (σ false o6 o7) (mem H0) = .nx (σ on o6' o7') (mem H) := by
    intro H0 o6 o7 hs0 hg0
    have e0 : evS kl (evCall kl T (n + 1)) f__law_struck_l1 (σ false o6 o7) (mem H0) = forL (fun x σ M => bindT (.nm 6) x σ M) (fun σ M => evSs kl (evCall kl T (n + 1)) f__law_struck_b1 σ M) [] (st.map ov) (σ false o6 o7) (mem H0) := by
      simp only [f__law_struck_l1, σ]
      simp_all_arith! []
    rw [e0]
    have ll := hs0.length_le
    rw [List.length_range] at ll
    refine forL_inv (Q := fun r => ∃ on o6' o7' H, H.Sublist H0 ∧ (∀ s, InLot t st s → s ∈ H) ∧ (on = false → H = H0 ∧ ∀ w, some w ∈ st → w.s ∈ H0 → ¬ Goes H0 w) ∧ (on = true → H.length < H0.length) ∧ r = .nx (σ on o6' o7') (mem H))
      (fun k σ' M' => ∃ on o6' o7' H, H.Sublist H0 ∧ (∀ s, InLot t st s → s ∈ H) ∧ (on = false → H = H0 ∧ ∀ w, some w ∈ st.take k → w.s ∈ H0 → ¬ Goes H0 w) ∧ (on = true → H.length < H0.length) ∧ σ' = σ on o6' o7' ∧ M' = mem H) ?_ ?_ ?_ ?_
    · exact ⟨false, o6, o7, H0, List.Sublist.refl _, hg0, fun _ => ⟨rfl, by simp⟩, fun h => (by cases h), rfl, rfl⟩
    · exact fun _ _ _ _ _ => trivial
    · rintro k hk _ _ ⟨on, p6, p7, H, h1, h2, h3, h4, rfl, rfl⟩
      have hk' : k < st.length := by simpa using hk
      rw [List.getElem_map]
      have tk : st.take (k + 1) = st.take k ++ [st[k]] := by rw [List.take_append_getElem]
      have mem_k : st[k] ∈ st := List.getElem_mem hk'
      have hl := h1.length_le
      obtain ⟨o7', e⟩ := body st[k] on p7 H mem_k (by omega)
      refine ⟨σ on (some (ov st[k])) p7, rfl, ?_⟩
      show Stp _ _ (evSs kl (evCall kl T (n + 1)) f__law_struck_b1 _ _)
      rw [e]
      by_cases c : ∃ w, st[k] = some w ∧ w.s ∈ H ∧ Goes H w
      · rw [if_pos c]
        obtain ⟨w, hw, c1, c2⟩ := c
        rw [hw]
        have ln : (H.erase w.s).length < H.length := by
          rw [List.length_erase_of_mem c1]
          have := List.length_pos_of_mem c1
          omega
        refine ⟨true, _, _, H.erase w.s, List.erase_sublist.trans h1, fun s hsl => ?_, fun h => (by cases h), fun _ => Nat.lt_of_lt_of_le ln hl, rfl, rfl⟩
        have ne : s ≠ w.s := by
          rintro rfl
          obtain ⟨a, row, r1, r2⟩ := hsl.ex
          simp only [wantN] at r1
          split at r1
          · cases r1
          · rename_i q
            cases r1
            rcases c2 with c2 | ⟨v, hv, hn⟩
            · exact q (.inl ⟨w, by rw [← hw]; exact mem_k, rfl, c2⟩)
            · refine hn (h2 _ (r2 v.s ?_))
              simp only [hd, List.mem_flatMap]
              exact ⟨some w, by rw [← hw]; exact mem_k, by simp only [hd1, if_true]; exact List.mem_map_of_mem hv⟩
        exact (List.mem_erase_of_ne ne).mpr (h2 s hsl)
      · rw [if_neg c]
        refine ⟨on, _, _, H, h1, h2, fun h => ⟨(h3 h).1, fun w hw hs' => ?_⟩, h4, rfl, rfl⟩
        rw [tk] at hw
        rcases List.mem_append.mp hw with q | q
        · exact (h3 h).2 w q hs'
        · have q : some w = st[k] := by simpa using q
          intro g
          rw [← (h3 h).1] at hs' g
          exact c ⟨w, q.symm, hs', g⟩
    · rintro _ _ ⟨on, p6, p7, H, h1, h2, h3, h4, rfl, rfl⟩
      rw [List.length_map, List.take_length] at h3
      exact ⟨on, p6, p7, H, h1, h2, h3, h4, rfl⟩
  have loop : ∃ o6 o7, evS kl (evCall kl T (n + 1)) f__law_struck_l2 (σ true none none) (mem full) = .nx (σ false o6 o7) (mem (glot t st)) := by
    have e0 : evS kl (evCall kl T (n + 1)) f__law_struck_l2 (σ true none none) (mem full) = whileL (fun σ M => (evE kl (evCall kl T (n + 1)) (.var 5) σ M).bind fun x M1 => R.of (tru M1 x) M1) (fun σ M => evSs kl (evCall kl T (n + 1)) f__law_struck_b2 σ M) wFuel (σ true none none) (mem full) := by
      simp only [f__law_struck_l2, evS]
    rw [e0]
    refine whileL_inv (Q := fun r => ∃ o6 o7, r = .nx (σ false o6 o7) (mem (glot t st)))
      (fun m σ' M' => ∃ on o6 o7 H, H.Sublist (List.range t.length) ∧ H.Sublist full ∧ (∀ s, InLot t st s → s ∈ H) ∧ (on = false → ∀ w, some w ∈ st → w.s ∈ H → ¬ Goes H w) ∧ (on = true → H.length < m) ∧ σ' = σ on o6 o7 ∧ M' = mem H) ?_ wFuel 1000 _ _ ?_ (by decide)
    · rintro m _ _ ⟨on, o6, o7, H, h1, h1', h2, h3, h4, rfl, rfl⟩
      cases on with
      | false =>
        refine ⟨false, mem H, by simp only [σ]; simp_arith [], fun _ => ⟨o6, o7, ?_⟩, fun h => by cases h⟩
        have : H = glot t st := by
          refine sub_range h1 fun s => ⟨fun q => ?_, fun q => h2 s q.2⟩
          refine ⟨List.mem_range.mp (h1.subset q), fun x => x ∈ H, fun x hx => ?_, q⟩
          have hxn := List.mem_range.mp (h1.subset hx)
          have ful := (List.mem_filter.mp (h1'.subset hx)).2
          simp only [decide_eq_true_eq] at ful
          refine ⟨hxn, hd st x, ?_, fun y hy => ?_⟩
          · simp only [wantN]
            rw [if_neg]
            rintro (⟨w, hw, rfl, hf⟩ | h)
            · exact h3 rfl w hw hx (.inl hf)
            · omega
          · simp only [hd, List.mem_flatMap] at hy
            obtain ⟨o, ho, hy⟩ := hy
            cases o with
            | none => simp [hd1] at hy
            | some w =>
              simp only [hd1] at hy
              split at hy
              · rename_i q
                subst q
                obtain ⟨c, hc, rfl⟩ := List.mem_map.mp hy
                exact Classical.byContradiction fun z => h3 rfl w ho hx (.inr ⟨c, hc, z⟩)
              · simp at hy
        rw [this]
      | true =>
        obtain ⟨on, p6, p7, H', g1, g2, g3, g4, e⟩ := step1 H o6 o7 h1 h2
        refine ⟨true, mem H, by simp only [σ]; simp_arith [], fun h => (by cases h), fun _ => ?_⟩
        have e1 : evSs kl (evCall kl T (n + 1)) f__law_struck_b2 (σ true o6 o7) (mem H) = .nx (σ on p6 p7) (mem H') := by
          simp only [f__law_struck_b2, σ]
          simp only [σ] at e
          simp_arith [e]
        rw [e1]
        refine ⟨H.length, h4 rfl, on, p6, p7, H', g1.trans h1, g1.trans h1', g2, fun h w hw hs' => ?_, g4, rfl, rfl⟩
        rw [(g3 h).1] at hs' ⊢
        exact (g3 h).2 w hw hs'
    · refine ⟨true, none, none, full, List.filter_sublist, List.Sublist.refl _, inl, fun h => (by cases h), fun _ => ?_, rfl, rfl⟩
      have := List.length_filter_le (fun s => decide (cnt st s = t.getD s 0)) (List.range t.length)
      rw [List.length_range] at this
      exact Nat.lt_of_le_of_lt this (by omega)
  obtain ⟨o6, o7, e⟩ := loop
  rw [call_of tSt rfl]
  simp only [f__law_struck]
  simp only [σ, mem] at e c3
  simp_all_arith! [c3, e]
  exact leave_ret (by simpa [below] using belowL_pure _ (pure_iv _))
end
end Sx
end

section
set_option Elab.async false
set_option linter.all false
set_option maxRecDepth 100000
/-! Sg, part 36: texts of values (repr). -/
namespace Sx
open Sg
open PySem (Str PyData)
def okS (s : Str) : Bool := PyData.strOk s
theorem okS_app {a b : Str} (ha : okS a = true) (hb : okS b = true) : okS (a ++ b) = true := by
  have e : (a ++ b).cps = a.cps ++ b.cps := rfl
  simp only [okS, PyData.strOk, Array.all_eq_true', decide_eq_true_eq] at ha hb ⊢
  intro x hx
  rw [e, Array.mem_append] at hx
  rcases hx with h | h
  · exact ha x h
  · exact hb x h
theorem okS_of (s : String) : okS (Str.ofString s) = true := by
  rw [PySem.Str.ofString_eq_toList]
  simp only [okS, PyData.strOk, Array.all_eq_true', decide_eq_true_eq, List.mem_toArray, List.mem_map]
  rintro x ⟨c, _, rfl⟩
  have h : c.val.toNat.isValidChar := c.valid
  show c.val.toNat < 1114112
  unfold Nat.isValidChar at h
  omega
theorem okS_join (sep : Str) (hs : okS sep = true) : ∀ (ts : List Str), (∀ t ∈ ts, okS t = true) → okS (Str.join sep ts) = true
  | [], _ => (by decide +kernel : okS PySem.Str.empty = true)
  | [x], h => h x (by simp)
  | x :: y :: r, h => by
    show okS (x ++ sep ++ Str.join sep (y :: r)) = true
    exact okS_app (okS_app (h x (by simp)) hs) (okS_join sep hs (y :: r) fun t ht => h t (by simp [ht]))
theorem okS_tup (ts : List Str) (h : ∀ t ∈ ts, okS t = true) : okS (PySem.tupleText ts) = true := by
  unfold PySem.tupleText
  refine okS_app (okS_app (okS_of _) (okS_join _ (okS_of _) ts h)) ?_
  split <;> exact okS_of _
theorem okS_from : ∀ (ts : List Str) (k : Nat) (acc : Str), okS acc = true → (∀ t ∈ ts, okS t = true) → okS (PySem.textFrom k acc ts) = true
  | [], k, acc, ha, _ => ha
  | t :: r, k, acc, ha, h => by
    refine okS_from r (k + 1) _ (okS_app (okS_app ha ?_) (h t (by simp))) fun u hu => h u (by simp [hu])
    split <;> exact okS_of _
theorem okS_lst (ts : List Str) (h : ∀ t ∈ ts, okS t = true) : okS (PySem.listText ts) = true := okS_app (okS_from ts 0 _ (okS_of _) h) (okS_of _)
mutual
/-- small leaves -/
def lf : Vl → Bool
  | .non => true
  | .bl _ => true
  | .int i => decide (i.natAbs < 10 ^ 40)
  | .str s => okS s && okS (PySem.reprText s) && decide ((PySem.reprText s).length ≤ 50)
  | .tup l => lfL l
  | .lst l => lfL l
  | .ref _ => false
  | .xc _ _ => false
  | .scr _ => false
  | .dic => true
def lfL : List Vl → Bool
  | [] => true
  | x :: r => lf x && lfL r
end
mutual
/-- at most so long a text -/
def sz : Vl → Nat
  | .tup l => szL l + 3
  | .lst l => szL l + 3
  | _ => 50
def szL : List Vl → Nat
  | [] => 0
  | x :: r => sz x + 2 + szL r
end
theorem lfL_iff : ∀ {l : List Vl}, lfL l = true ↔ ∀ x ∈ l, lf x = true
  | [] => by simp [lfL]
  | x :: r => by simp [lfL, lfL_iff]
theorem szL_eq : ∀ (l : List Vl), szL l = (l.map fun x => sz x + 2).sum
  | [] => rfl
  | x :: r => by simp [szL, szL_eq r]
theorem szL_app (l m : List Vl) : szL (l ++ m) = szL l + szL m := by simp [szL_eq]
theorem szL_le {c : Nat} : ∀ {l : List Vl}, (∀ x ∈ l, sz x ≤ c) → szL l ≤ (c + 2) * l.length
  | [], _ => by simp [szL]
  | x :: r, h => by
    have h1 := h x (by simp)
    have h2 := szL_le (l := r) fun y hy => h y (by simp [hy])
    simp only [szL, List.length_cons, Nat.mul_add, Nat.mul_one]
    omega
mutual
theorem lf_pure : ∀ {w : Vl}, lf w = true → pureR w = true
  | .non, _ => rfl
  | .bl _, _ => rfl
  | .int _, _ => rfl
  | .str s, h => by simp only [lf, Bool.and_eq_true] at h; simp only [pureR]; exact h.1.1
  | .tup l, h => by simp only [pureR]; exact lfL_pure (by simpa [lf] using h)
  | .lst l, h => by simp only [pureR]; exact lfL_pure (by simpa [lf] using h)
  | .ref _, h => by simp [lf] at h
  | .xc _ _, h => by simp [lf] at h
  | .scr _, h => by simp [lf] at h
  | .dic, _ => rfl
theorem lfL_pure : ∀ {l : List Vl}, lfL l = true → pureRL l = true
  | [], _ => rfl
  | x :: r, h => by
    have h : lf x = true ∧ lfL r = true := by simpa [lfL] using h
    simp [pureRL, lf_pure h.1, lfL_pure h.2]
end
theorem log_small {i : Int} (h : i.natAbs < 10 ^ 40) : i.natAbs.log2 < 1920 := by
  by_cases z : i.natAbs = 0
  · rw [z]; decide
  · rw [Nat.log2_lt z]
    generalize hk : (1920 : Nat) = k
    have hk2 : 200 ≤ k := by omega
    exact Nat.lt_of_lt_of_le h (Nat.le_trans (m := 2 ^ 200) (by decide) (Nat.pow_le_pow_right (by decide) hk2))
mutual
theorem lf_showable : ∀ {w : Vl}, lf w = true → (toD w).showable = true
  | .non, _ => rfl
  | .bl _, _ => rfl
  | .int i, h => by
    simp only [lf, decide_eq_true_eq] at h
    simp only [toD, PyData.showable, decide_eq_true_eq]
    exact log_small h
  | .str s, h => rfl
  | .tup l, h => by simp only [toD, PyData.showable]; exact lfL_showable (by simpa [lf] using h)
  | .lst l, h => by simp only [toD, PyData.showable]; exact lfL_showable (by simpa [lf] using h)
  | .ref _, h => by simp [lf] at h
  | .xc _ _, h => by simp [lf] at h
  | .scr _, h => by simp [lf] at h
  | .dic, _ => by decide
theorem lfL_showable : ∀ {l : List Vl}, lfL l = true → PyData.showableAll (toDL l) = true
  | [], _ => rfl
  | x :: r, h => by
    have h : lf x = true ∧ lfL r = true := by simpa [lfL] using h
    simp [toDL, PyData.showableAll, lf_showable h.1, lfL_showable h.2]
end
mutual
theorem lf_shown : ∀ {w : Vl}, lf w = true → (shownV w).length ≤ sz w ∧ okS (shownV w) = true
  | .non, _ => ⟨by decide +kernel, by decide +kernel⟩
  | .bl b, _ => by cases b <;> exact ⟨by decide +kernel, by decide +kernel⟩
  | .int i, h => by
    simp only [lf, decide_eq_true_eq] at h
    have e := PySem.int_text_length_le10 (k := 40) (by decide) h
    refine ⟨?_, ?_⟩
    · show (PyData.shown (.int i)).length ≤ 50
      rw [PyData.shown_int, PySem.ofString_length]
      omega
    · show okS (PyData.shown (.int i)) = true
      rw [PyData.shown_int]
      exact okS_of _
  | .str s, h => by
    simp only [lf, Bool.and_eq_true, decide_eq_true_eq] at h
    have e : shownV (.str s) = PySem.reprText s := by simp only [shownV, toD, PyData.shown]
    rw [e]
    exact ⟨h.2, h.1.2⟩
  | .tup l, h => by
    have q := lfL_shown (l := l) (by simpa [lf] using h)
    have e : shownV (.tup l) = PySem.tupleText (PyData.shownAll (toDL l)) := by simp only [shownV, toD, PyData.shown]
    rw [e]
    refine ⟨?_, okS_tup _ q.2⟩
    have := PySem.tupleText_len_le (PyData.shownAll (toDL l))
    simp only [sz]; omega
  | .lst l, h => by
    have q := lfL_shown (l := l) (by simpa [lf] using h)
    have e : shownV (.lst l) = PySem.listText (PyData.shownAll (toDL l)) := by simp only [shownV, toD, PyData.shown]
    rw [e]
    refine ⟨?_, okS_lst _ q.2⟩
    have := PySem.listText_len_le (PyData.shownAll (toDL l))
    simp only [sz]; omega
  | .ref _, h => by simp [lf] at h
  | .xc _ _, h => by simp [lf] at h
  | .scr _, h => by simp [lf] at h
  | .dic, _ => ⟨by decide +kernel, by decide +kernel⟩
theorem lfL_shown : ∀ {l : List Vl}, lfL l = true → ((PyData.shownAll (toDL l)).map (·.length)).sum + 2 * (PyData.shownAll (toDL l)).length ≤ szL l ∧ ∀ t ∈ PyData.shownAll (toDL l), okS t = true
  | [], _ => by simp [toDL, PyData.shownAll, szL]
  | x :: r, h => by
    have h : lf x = true ∧ lfL r = true := by simpa [lfL] using h
    have a := lf_shown h.1
    have b := lfL_shown h.2
    simp only [shownV] at a
    simp only [toDL, PyData.shownAll, List.map_cons, List.sum_cons, List.length_cons, szL]
    refine ⟨by omega, fun t ht => ?_⟩
    rcases List.mem_cons.mp ht with rfl | ht
    · exact a.2
    · exact b.2 t ht
end
/-- a value whose text is small -/
structure Rp (w : Vl) : Prop where
  lf : lf w = true
  dp : dep w ≤ 150
  sz : sz w ≤ 16777216
theorem Rp.eval {w : Vl} (h : Rp w) (M : Mm) : biV .repr [w] M = .ok (.str (shownV w)) M := by
  have p := lf_pure h.lf
  have c : pureR (rd M w) = true ∧ PyData.showable (toD (rd M w)) = true ∧ dep (rd M w) ≤ depLine ∧ (shownV (rd M w)).length ≤ PySem.sizeLine := by
    rw [rd_R p]
    exact ⟨p, lf_showable h.lf, h.dp, Nat.le_trans (lf_shown h.lf).1 (Nat.le_trans h.sz (by decide))⟩
  simp only [biV]
  rw [if_pos c, rd_R p]
theorem Rp.ok {w : Vl} (h : Rp w) : okS (shownV w) = true := (lf_shown h.lf).2
theorem eqP_str {a b : Str} (ha : okS a = true) (hb : okS b = true) : eqP (.str a) (.str b) = some (decide (a = b)) := by
  have pa : pureV (.str a) = true := by simp only [pureV]; exact ha
  have pb : pureV (.str b) = true := by simp only [pureV]; exact hb
  rw [eqP_of pa pb (by simp [dep])]
  simp [eqV]
/-- equal values have equal texts -/
theorem eqP_shown {a : Vl} (h : Rp a) : eqP (.str (shownV a)) (.str (shownV a)) = some true := by
  rw [eqP_str h.ok h.ok]; simp
end Sx
end

section
set_option Elab.async false
set_option linter.all false
set_option maxRecDepth 100000
/-! Sg, part 40: small texts of nets, ways, standings. -/
namespace Sx
open Sg
open PySem (Str PyData)
theorem lf_iv {n : Nat} (h : n < 1000000) : lf (iv n) = true := by
  simp only [iv, lf, decide_eq_true_eq, Int.natAbs_natCast]
  exact Nat.lt_of_lt_of_le h (by decide)
theorem lf_ivs {l : List Nat} (h : ∀ x ∈ l, x < 1000000) : lfL (l.map iv) = true := by
  rw [lfL_iff]
  intro x hx
  obtain ⟨a, ha, rfl⟩ := List.mem_map.mp hx
  exact lf_iv (h a ha)
theorem sz_ivs (l : List Nat) : szL (l.map iv) = 52 * l.length := by
  induction l with
  | nil => rfl
  | cons a r ih => simp only [List.map_cons, szL, sz, ih, List.length_cons]; omega
theorem lf_net {m : Nat} {t : List Nat} {l : List (Nat × Nat)} (hm : m < 100) (ht : ∀ x ∈ t, x ≤ 10) (lo : LinesOk m l) : lf (netV t l) = true := by
  simp only [netV, lf, lfL, Bool.and_true, Bool.and_eq_true]
  refine ⟨lf_ivs fun x hx => by have := ht x hx; omega, ?_⟩
  rw [lfL_iff]
  intro x hx
  obtain ⟨p, hp, rfl⟩ := List.mem_map.mp hx
  have := lo.lt p hp
  simp only [pv, lf, lfL, Bool.and_true, Bool.and_eq_true]
  exact ⟨lf_iv (by omega), lf_iv (by omega)⟩
theorem sz_net (t : List Nat) (l : List (Nat × Nat)) : sz (netV t l) = 52 * t.length + 109 * l.length + 13 := by
  have : szL (l.map pv) = 109 * l.length := by
    induction l with
    | nil => rfl
    | cons a r ih => simp only [List.map_cons, szL, pv, sz, ih, List.length_cons]; omega
  simp only [netV, sz, szL, sz_ivs, this]
  omega
theorem dep_net (t : List Nat) (l : List (Nat × Nat)) : dep (netV t l) ≤ 3 := by
  have : depL (l.map pv) ≤ 1 := by
    induction l with
    | nil => simp [depL]
    | cons a r ih => simp only [List.map_cons, depL, pv, dep]; omega
  simp only [netV, dep, depL, dep_iv]
  omega
/-- how large a way of so many steps is -/
def wsz : Nat → Nat
  | 0 => 60
  | d + 1 => 60 + 3 * (wsz d + 2)
theorem way_rp {m : Nat} {l : List (Nat × Nat)} (hm : m < 100) : ∀ {d : Nat} {w : Way}, WayOk m l d w → lf (wv w) = true ∧ sz (wv w) ≤ wsz d ∧ dep (wv w) ≤ 2 * d + 2
  | 0, .mk s f, h => by
    have h2 : f = [] := h.2
    subst h2
    have h1 : s < m := h.1
    refine ⟨?_, by simp [wv_mk, sz, szL, wsz], by simp [wv_mk, dep, depL]⟩
    simp only [wv_mk, lf, lfL, List.map_nil, Bool.and_true]
    exact lf_iv (by omega)
  | d + 1, .mk s f, h => by
    have h1 : s < m := h.1
    have h2 : f.length ≤ 3 := h.2.1
    have ih : ∀ c ∈ f, lf (wv c) = true ∧ sz (wv c) ≤ wsz d ∧ dep (wv c) ≤ 2 * d + 2 := fun c hc => way_rp hm (h.2.2.2 c hc).2
    refine ⟨?_, ?_, ?_⟩
    · simp only [wv_mk, lf, lfL, Bool.and_true, Bool.and_eq_true]
      refine ⟨lf_iv (by omega), ?_⟩
      rw [lfL_iff]
      intro x hx
      obtain ⟨c, hc, rfl⟩ := List.mem_map.mp hx
      exact (ih c hc).1
    · have := szL_le (c := wsz d) (l := f.map wv) fun x hx => by
        obtain ⟨c, hc, rfl⟩ := List.mem_map.mp hx
        exact (ih c hc).2.1
      rw [List.length_map] at this
      have h3 := Nat.mul_le_mul_left (wsz d + 2) h2
      simp only [wv_mk, sz, szL, wsz]
      omega
    · have : depL (f.map wv) ≤ 2 * d + 2 := by
        clear h h2
        induction f with
        | nil => simp [depL]
        | cons a r ihr =>
          have h1 := (ih a (by simp)).2.2
          have h2 := ihr fun c hc => ih c (by simp [hc])
          simp only [List.map_cons, depL]; omega
      simp only [wv_mk, dep, depL]
      omega
theorem st_rp {m : Nat} {l : List (Nat × Nat)} {st : List (Option Way)} {d : Nat} (hm : m < 100) (hd : d ≤ 20) (h : ∀ w, some w ∈ st → WayOk m l d w) : lf (stV st) = true ∧ sz (stV st) ≤ (wsz d + 2) * st.length + 3 ∧ dep (stV st) ≤ 50 := by
  have each : ∀ o ∈ st, lf (ov o) = true ∧ sz (ov o) ≤ wsz d ∧ dep (ov o) ≤ 2 * d + 2 := by
    intro o ho
    cases o with
    | none =>
      refine ⟨rfl, ?_, by simp [ov, dep]⟩
      show 50 ≤ wsz d
      cases d with
      | zero => decide
      | succ d => simp only [wsz]; omega
    | some w => exact way_rp hm (h w ho)
  refine ⟨?_, ?_, ?_⟩
  · simp only [stV, lf]
    rw [lfL_iff]
    intro x hx
    obtain ⟨c, hc, rfl⟩ := List.mem_map.mp hx
    exact (each c hc).1
  · have := szL_le (c := wsz d) (l := st.map ov) fun x hx => by
      obtain ⟨c, hc, rfl⟩ := List.mem_map.mp hx
      exact (each c hc).2.1
    rw [List.length_map] at this
    simp only [stV, sz]
    omega
  · have : depL (st.map ov) ≤ 2 * d + 2 := by
      clear h
      induction st with
      | nil => simp [depL]
      | cons a r ihr =>
        have h1 := (each a (by simp)).2.2
        have h2 := ihr fun c hc => each c (by simp [hc])
        simp only [List.map_cons, depL]; omega
    simp only [stV, dep]
    omega
theorem rp_two {a b : Vl} (ha : lf a = true) (hb : lf b = true) (hs : sz a + sz b ≤ 16000000) (hd : dep a ≤ 100) (hd2 : dep b ≤ 100) : Rp (.lst [a, b]) where
  lf := by simp [lf, lfL, ha, hb]
  dp := by simp only [dep, depL]; omega
  sz := by simp only [sz, szL]; omega
theorem rp_one {a : Vl} (ha : lf a = true) (hs : sz a ≤ 16000000) (hd : dep a ≤ 100) : Rp (.lst [a]) where
  lf := by simp [lf, lfL, ha]
  dp := by simp only [dep, depL]; omega
  sz := by simp only [sz, szL]; omega
theorem lines_len {m : Nat} {l : List (Nat × Nat)} (lo : LinesOk m l) (hm : m < 100) : l.length ≤ 10000 := by
  have h1 := lo.len
  have h2 := Nat.mul_le_mul (show m ≤ 100 by omega) (show m ≤ 100 by omega)
  omega
end Sx
end

section
set_option Elab.async false
set_option linter.all false
set_option maxRecDepth 100000
/-! Sg, part 37: values of any kind looked at as ways. -/
namespace Sx
open Sg
open PySem (Str PyData)
local macro_rules
| `(tactic| simp_arith [$ls,*]) => `(tactic| simp (config := { decide := false, implicitDefEqProofs := false }) only [↓e_var, ↓e_cst, ↓e_glb, ↓e_tup,
    ↓e_lst, ↓e_dct, ↓e_dic, ↓e_bin, ↓e_neg, ↓e_not, ↓e_and, ↓e_or, ↓e_cmp, ↓e_cmp2, ↓e_ite, ↓e_idx, ↓e_sl, ↓e_rev, ↓e_comp, ↓e_call, ↓e_callk, ↓e_bi,
    ↓e_src, ↓e_meth, ↓e_xfld, ↓e_xisi, ↓es_nil, ↓es_cons, ↓cs_nil, ↓cs_one, ↓oe_no, ↓oe_so, ↓sr_val, ↓sr_enum, ↓sr_zip, ↓sr_rng1, ↓sr_rng2, ↓s_expr,
    ↓s_set, ↓s_setT, ↓s_par, ↓s_setI, ↓s_augI, ↓s_augN, ↓s_ret, ↓s_retN, ↓s_ife, ↓s_for, ↓s_raise, ↓s_try, ↓s_pass, ↓s_brk, ↓s_cnt, ↓ss_nil, ↓ss_cons,
    ↓hs_nil, ↓hs_cons, ↓hs_none, evKs, bindI_ok, bindI_exc, bindI_bad, thnI_ok, thnI_exc, thnI_bad, sthnI_nx, sthnI_brk, sthnI_cnt, sthnI_ret,
    sthnI_exc, sthnI_bad, R.of_some, R.of_none, R.bind_ok, R.thn_ok, RS.thn_nx, List.getElem?_cons_zero, List.getElem?_cons_succ, List.set_cons_zero,
    List.set_cons_succ, Option.bind_some, Option.bind_none, Option.map_some, Option.map_none, id, varV_non, varV_bl, varV_int, varV_str, varV_tup,
    varV_lst, varV_ref, varV_scr, varV_dic, rd_dic, rd_non, rd_bl, rd_int, rd_str, rd_tup, rd_lst, rd_scr, seq_tup, seq_lst, seqLst_lst, tru_bl,
    tru_non, mkL_f, mkL_c, startS_def, List.map_cons, List.map_nil, List.cons_append, List.nil_append, List.replicate_succ, List.replicate_zero,
    Nat.sub_self, Nat.reduceSub, Nat.reduceAdd, bin2, addV, cmpV, eqR_P, eqP_int, inR_P, pureL_ints, pureL_nats, pureL_nil, pureL_cons, Bool.and_true,
    Bool.true_and, List.isEmpty_cons, List.isEmpty_nil, Bool.not_false, Bool.not_true, inP_ints, inP_nats, eqP_lnil, eqP_tnil, intsOf_map, rd_b1,
    rd_b2, pureV, setIV, augGet, methV, methL, setL, bindT, wipeS, List.foldr_cons, List.foldr_nil, setAll, intOf, slV, cutL_take, cutL_drop,
    cutL_drop1, cutL_take1, ordV, isNon, biV, keyOf_str, keyOf_int, lookK_cons, lookK_nil, idxV, rd_r, cellL, lt_line, getD_z, getD_s, Int.ofNat_inj,
    cast0, cast1, cast0', List.dropLast_concat, last_app, last_app', last_map, Nat.add_sub_cancel, Nat.zero_add, List.map_append, Int.ofNat_lt,
    Int.ofNat_le, Nat.reduceLT, List.zip_cons_cons, List.zip_nil_left, List.zip_nil_right, List.foldl_cons, List.foldl_nil, List.any_cons,
    List.any_nil, decide_true, decide_false, Bool.or_true, Bool.true_or, Bool.or_false, Bool.false_or, Bool.false_eq_true, place_zero, place_1,
    place_2, place_3, place_4, List.length_cons, List.length_map, List.length_append, List.length_nil, Option.some.injEq, Sum.inr.injEq, Sum.inl.injEq,
    Int.reduceLT, Int.reduceLE, true_and, and_true, and_self, List.isEmpty_map, reduceIte, reduceCtorEq, if_true, if_false, $ls,*])
local macro_rules
  | `(tactic| simp_all_arith [$ls,*]) => `(tactic| simp_arith [bgm_len, bgm_app, bgm_get0, bgm_get1, bgm_get2, bgm_set0, bgm_set1, bgm_set2, List.append_assoc, Nat.add_assoc, $ls,*])
local macro_rules
  | `(tactic| simp_arith! [$ls,*]) => `(tactic| simp_arith [varV_net, rd_net, get_app, get_app0, set_app, set_app0, List.append_assoc, Nat.add_assoc, $ls,*])
local macro_rules
  | `(tactic| simp_all_arith! [$ls,*]) => `(tactic| simp_arith! [varV_wv, rd_wv, varV_st, rd_st, bgm_len, bgm_app, bgm_get0, bgm_get1, bgm_get2, bgm_set0, bgm_set1, bgm_set2, $ls,*])
def f_is_built_c1 : E := (.comp true (.call "is_built" (.cons (.var 2) .nil)) (.nm 2) (.val (.var 1)) .nil [2])
def f_is_built : Fn := { np := 1, nl := 3, fz := true, body := (.cons (.ife (.or (.not (.bi (.isi .tuple) (.cons (.var 0) .nil))) (.cmp .ne (.bi .len (.cons (.var 0) .nil)) (.cst (.int 2)))) (.cons (.ret (.cst (.bl false))) .nil) .nil) (.cons (.set 1 (.idx (.var 0) (.cst (.int 1)))) (.cons (.ife (.or (.not (.bi (.isi .tuple) (.cons (.var 1) .nil))) (.cmp .gt (.bi .len (.cons (.var 1) .nil)) (.glb "MAX_CHOICES" (.int 3)))) (.cons (.ret (.cst (.bl false))) .nil) .nil) (.cons (.ret (.bi .all (.cons f_is_built_c1 .nil))) .nil)))) }
def f_add_rows_b1 : Ss := (.cons (.expr (.call "add_rows" (.cons (.var 0) (.cons (.var 5) (.cons (.idx (.var 1) (.cst (.int 0))) (.cons (.var 4) .nil)))))) (.cons (.set 4 (.idx (.var 5) (.cst (.int 0)))) .nil))
def f_add_rows_l1 : S := (.for_ (.nm 5) (.val (.idx (.var 1) (.cst (.int 1)))) f_add_rows_b1)
def f_add_rows : Fn := { np := 4, nl := 6, fz := true, body := (.cons (.expr (.meth .append (.var 0) (.cons (.tup (.cons (.idx (.var 1) (.cst (.int 0))) (.cons (.var 2) (.cons (.var 3) .nil)))) .nil))) (.cons (.set 4 (.cst .non)) (.cons f_add_rows_l1 .nil))) }
def f_rows_of : Fn := { np := 1, nl := 2, fz := true, body := (.cons (.set 1 (.lst false .nil)) (.cons (.expr (.call "add_rows" (.cons (.var 1) (.cons (.var 0) (.cons (.cst .non) (.cons (.cst .non) .nil)))))) (.cons (.ret (.var 1)) .nil))) }
def f__law_is_built_c1 : E := (.comp true (.cst (.int 1)) (.nm 1) (.val (.idx (.var 0) (.cst (.int 1)))) (.cons (.not (.call "_law_is_built" (.cons (.var 1) .nil))) .nil) [1])
def f__law_is_built : Fn := { np := 1, nl := 2, fz := true, body := (.cons (.ife (.or (.not (.bi (.isi .tuple) (.cons (.var 0) .nil))) (.or (.cmp .ne (.bi .len (.cons (.var 0) .nil)) (.cst (.int 2))) (.or (.not (.bi (.isi .tuple) (.cons (.idx (.var 0) (.cst (.int 1))) .nil))) (.cmp .gt (.bi .len (.cons (.idx (.var 0) (.cst (.int 1))) .nil)) (.cst (.int 3)))))) (.cons (.ret (.cst (.bl false))) .nil) .nil) (.cons (.ret (.cmp .eq f__law_is_built_c1 (.lst true .nil))) .nil)) }
mutual
/-- built like a way -/
def blt : Vl → Bool
  | .tup [_, .tup f] => decide (f.length ≤ 3) && bltL f
  | _ => false
def bltL : List Vl → Bool
  | [] => true
  | x :: r => blt x && bltL r
end
theorem bltL_all : ∀ (l : List Vl), bltL l = l.all blt
  | [] => rfl
  | x :: r => by simp [bltL, bltL_all r]
theorem blt_t0 : blt (.tup []) = false := by simp [blt]
theorem blt_t1 (a : Vl) : blt (.tup [a]) = false := by simp [blt]
theorem blt_t3 (a b c : Vl) (r : List Vl) : blt (.tup (a :: b :: c :: r)) = false := by cases b <;> rfl
theorem blt_t2 (a : Vl) (f : List Vl) : blt (.tup [a, .tup f]) = (decide (f.length ≤ 3) && f.all blt) := by simp [blt, bltL_all]
theorem blt_t2n (a : Vl) {b : Vl} (h : ¬ ∃ f, b = .tup f) : blt (.tup [a, b]) = false := by
  cases b <;> first | (simp [blt]; done) | exact absurd ⟨_, rfl⟩ h
theorem blt_n {v : Vl} (h : ¬ ∃ l, v = .tup l) : blt v = false := by
  cases v <;> first | (simp [blt]; done) | exact absurd ⟨_, rfl⟩ h
theorem boolsOf_map {α : Type} (f : α → Bool) : ∀ (l : List α), boolsOf (l.map fun a => .bl (f a)) = some (l.map f)
  | [] => rfl
  | x :: r => by simp [boolsOf, boolsOf_map f r]
theorem dep_mem {l : List Vl} {n : Nat} : depL l ≤ n ↔ ∀ x ∈ l, dep x ≤ n := by
  induction l with
  | nil => simp [depL]
  | cons x r ih => simp [depL, ← ih, Nat.max_le]
section
variable (kl : Kls) {T : Tbl} (tB : T "is_built" = some f_is_built)
include tB
theorem built_ok : ∀ (n : Nat) (v : Vl) (M : Mm), pureR v = true → dep v ≤ n → evCall kl T (n + 1) "is_built" [v] M = .ok (.bl (blt v)) M := by
  have sl : PySem.sizeLine = 16777216 := by decide
  have h22 : (((2 : Nat) : Int) = 2) = True := eq_true rfl
  intro n
  induction n with
  | zero =>
    intro v M hp hd
    rw [call_of tB rfl]
    simp only [f_is_built]
    cases v <;> first | (simp [pureR] at hp; done) | (simp [dep] at hd; done) | skip
    all_goals
      simp_all_arith! [insTy]
      exact leave_ret0 (by simp [below])
  | succ n ih =>
    intro v M hp hd
    rw [call_of tB rfl]
    simp only [f_is_built]
    have vp := varV_R hp
    by_cases tv : ∃ l, v = .tup l
    · obtain ⟨l, rfl⟩ := tv
      rcases l with _ | ⟨a, _ | ⟨b, _ | ⟨c, r⟩⟩⟩
      · rw [blt_t0]
        simp_all_arith! [insTy]
        exact leave_ret0 (by simp [below])
      · rw [blt_t1]
        simp_all_arith! [insTy]
        exact leave_ret0 (by simp [below])
      · have pb : pureR a = true ∧ pureR b = true := by simpa [pureR, pureRL] using hp
        have vb := varV_R pb.2
        have rb := fun M => rd_R pb.2 M
        by_cases tb : ∃ f, b = .tup f
        · obtain ⟨f, rfl⟩ := tb
          by_cases h3 : f.length ≤ 3
          · have pf : pureRL f = true := by simpa [pureR] using pb.2
            have df : ∀ x ∈ f, dep x ≤ n := dep_mem.mp (by simp only [dep, depL] at hd; omega)
            have c1 : evE kl (evCall kl T (n + 1)) f_is_built_c1 [some (.tup [a, .tup f]), some (.tup f), none] M = .ok (.lst (f.map fun x => .bl (blt x))) M := by
              simp only [f_is_built_c1]
              simp_all_arith! []
              conv => lhs; rw [← List.map_id f]
              rw [compI_map0 id (fun _ => true) (fun x => .bl (blt x)) f ?_ (by omega)]
              · have ft : f.filter (fun _ => true) = f := by simp
                rw [ft]
                rfl
              · intro x hx
                have px := pureRL_iff.mp pf x hx
                refine ⟨_, rfl, rfl, fun _ => ?_⟩
                simp_all_arith! [varV_R px, ih x M px (df x hx)]
            have h3' : ((f.length : Int) > 3) = False := eq_false (by omega)
            have h3'' : ((3 : Int) < f.length) = False := eq_false (by omega)
            have eb : blt (.tup [a, .tup f]) = (f.map blt).all id := by rw [blt_t2, decide_eq_true h3, Bool.true_and, List.all_map]; rfl
            rw [eb]
            clear eb
            simp_all_arith! [insTy, h22, h3', h3'', c1, boolsOf_map]
            exact leave_ret0 (by simp [below])
          · have h3' : ((f.length : Int) > 3) = True := eq_true (by omega)
            have h3'' : ((3 : Int) < f.length) = True := eq_true (by omega)
            rw [blt_t2, decide_eq_false h3, Bool.false_and]
            simp_all_arith! [insTy, h22, h3', h3'']
            exact leave_ret0 (by simp [below])
        · rw [blt_t2n a tb]
          cases b <;> first | (simp [pureR] at pb; done) | exact absurd ⟨_, rfl⟩ tb | skip
          all_goals
            simp_all_arith! [insTy, h22]
            exact leave_ret0 (by simp [below])
      · have h2 : (((r.length + 3 : Nat) : Int) = 2) = False := eq_false (by omega)
        rw [blt_t3]
        simp_all_arith! [insTy, h2]
        exact leave_ret0 (by simp [below])
    · rw [blt_n tv]
      cases v <;> first | (simp [pureR] at hp; done) | exact absurd ⟨_, rfl⟩ tv | skip
      all_goals
        simp_all_arith! [insTy]
        exact leave_ret0 (by simp [below])
end
section
variable (kl : Kls) {T : Tbl} (tB : T "_law_is_built" = some f__law_is_built)
include tB
theorem lbuilt_ok : ∀ (n : Nat) (v : Vl) (M : Mm), pureR v = true → dep v ≤ n → evCall kl T (n + 1) "_law_is_built" [v] M = .ok (.bl (blt v)) M := by
  have sl : PySem.sizeLine = 16777216 := by decide
  have h22 : (((2 : Nat) : Int) = 2) = True := eq_true rfl
  intro n
  induction n with
  | zero =>
    intro v M hp hd
    rw [call_of tB rfl]
    simp only [f__law_is_built]
    cases v <;> first | (simp [pureR] at hp; done) | (simp [dep] at hd; done) | skip
    all_goals
      simp_all_arith! [insTy]
      exact leave_ret0 (by simp [below])
  | succ n ih =>
    intro v M hp hd
    rw [call_of tB rfl]
    simp only [f__law_is_built]
    have vp := varV_R hp
    by_cases tv : ∃ l, v = .tup l
    · obtain ⟨l, rfl⟩ := tv
      rcases l with _ | ⟨a, _ | ⟨b, _ | ⟨c, r⟩⟩⟩
      · rw [blt_t0]
        simp_all_arith! [insTy]
        exact leave_ret0 (by simp [below])
      · rw [blt_t1]
        simp_all_arith! [insTy]
        exact leave_ret0 (by simp [below])
      · have pb : pureR a = true ∧ pureR b = true := by simpa [pureR, pureRL] using hp
        have vb := varV_R pb.2
        have rb := fun M => rd_R pb.2 M
        by_cases tb : ∃ f, b = .tup f
        · obtain ⟨f, rfl⟩ := tb
          by_cases h3 : f.length ≤ 3
          · have pf : pureRL f = true := by simpa [pureR] using pb.2
            have df : ∀ x ∈ f, dep x ≤ n := dep_mem.mp (by simp only [dep, depL] at hd; omega)
            have c1 : evE kl (evCall kl T (n + 1)) f__law_is_built_c1 [some (.tup [a, .tup f]), none] M = .ok (.lst ((f.filter fun x => !blt x).map fun _ => .int 1)) M := by
              simp only [f__law_is_built_c1]
              simp_all_arith! []
              conv => lhs; rw [← List.map_id f]
              rw [compI_map0 id (fun x => !blt x) (fun x => .int 1) f ?_ (by omega)]
              · rfl
              · intro x hx
                have px := pureRL_iff.mp pf x hx
                refine ⟨_, rfl, ?_, fun _ => rfl⟩
                simp_all_arith! [varV_R px, ih x M px (df x hx)]
            have h3' : ((f.length : Int) > 3) = False := eq_false (by omega)
            have h3'' : ((3 : Int) < f.length) = False := eq_false (by omega)
            have e1 : eqP (.lst ((f.filter fun x => !blt x).map fun _ => .int 1)) (.lst []) = some (f.all blt) := by
              rw [eqP_lnil (pureL_iff.mpr fun x hx => by obtain ⟨_, _, rfl⟩ := List.mem_map.mp hx; rfl), List.isEmpty_map]
              congr 1
              rw [Bool.eq_iff_iff]
              simp
            rw [blt_t2, decide_eq_true h3, Bool.true_and]
            simp_all_arith! [insTy, h22, h3', h3'', c1, e1]
            exact leave_ret0 (by simp [below])
          · have h3' : ((f.length : Int) > 3) = True := eq_true (by omega)
            have h3'' : ((3 : Int) < f.length) = True := eq_true (by omega)
            rw [blt_t2, decide_eq_false h3, Bool.false_and]
            simp_all_arith! [insTy, h22, h3', h3'']
            exact leave_ret0 (by simp [below])
        · rw [blt_t2n a tb]
          cases b <;> first | (simp [pureR] at pb; done) | exact absurd ⟨_, rfl⟩ tb | skip
          all_goals
            simp_all_arith! [insTy, h22]
            exact leave_ret0 (by simp [below])
      · have h2 : (((r.length + 3 : Nat) : Int) = 2) = False := eq_false (by omega)
        rw [blt_t3]
        simp_all_arith! [insTy, h2]
        exact leave_ret0 (by simp [below])
    · rw [blt_n tv]
      cases v <;> first | (simp [pureR] at hp; done) | exact absurd ⟨_, rfl⟩ tv | skip
      all_goals
        simp_all_arith! [insTy]
        exact leave_ret0 (by simp [below])
end
/-! ### what is built like a way -/
inductive Wt where
  | mk (s : Vl) (f : List Wt)
def Wt.s : Wt → Vl | .mk s _ => s
def Wt.f : Wt → List Wt | .mk _ f => f
mutual
def we : Wt → Vl
  | .mk s f => .tup [s, .tup (wes f)]
def wes : List Wt → List Vl
  | [] => []
  | w :: r => we w :: wes r
end
theorem wes_map : ∀ (f : List Wt), wes f = f.map we
  | [] => rfl
  | w :: r => by simp [wes, wes_map r]
theorem we_mk (s : Vl) (f : List Wt) : we (.mk s f) = .tup [s, .tup (f.map we)] := by simp [we, wes_map]
theorem blt_ex : ∀ (n : Nat) (v : Vl), dep v ≤ n → blt v = true → ∃ w : Wt, v = we w := by
  intro n
  induction n with
  | zero =>
    intro v hd hb
    by_cases tv : ∃ l, v = .tup l
    · obtain ⟨l, rfl⟩ := tv
      simp [dep] at hd
    · rw [blt_n tv] at hb
      cases hb
  | succ n ih =>
    intro v hd hb
    by_cases tv : ∃ l, v = .tup l
    · obtain ⟨l, rfl⟩ := tv
      rcases l with _ | ⟨a, _ | ⟨b, _ | ⟨c, r⟩⟩⟩
      · rw [blt_t0] at hb; cases hb
      · rw [blt_t1] at hb; cases hb
      · by_cases tb : ∃ f, b = .tup f
        · obtain ⟨f, rfl⟩ := tb
          rw [blt_t2, Bool.and_eq_true, List.all_eq_true] at hb
          have df : ∀ x ∈ f, dep x ≤ n := dep_mem.mp (by simp only [dep, depL] at hd; omega)
          have : ∀ g : List Vl, (∀ x ∈ g, dep x ≤ n ∧ blt x = true) → ∃ ws : List Wt, g = ws.map we := by
            intro g
            induction g with
            | nil => exact fun _ => ⟨[], rfl⟩
            | cons x r ihg =>
              intro h
              obtain ⟨w, e⟩ := ih x (h x (by simp)).1 (h x (by simp)).2
              obtain ⟨ws, e2⟩ := ihg fun y hy => h y (by simp [hy])
              exact ⟨w :: ws, by rw [e, e2]; rfl⟩
          obtain ⟨ws, e⟩ := this f fun x hx => ⟨df x hx, hb.2 x hx⟩
          exact ⟨.mk a ws, by rw [we_mk, e]⟩
        · rw [blt_t2n a tb] at hb; cases hb
      · rw [blt_t3] at hb; cases hb
    · rw [blt_n tv] at hb
      cases hb
/-- a row: the station, that above, that of the choice ahead, how deep -/
structure Row where
  s : Vl
  ab : Option Vl
  ah : Option Vl
  d : Nat
mutual
def rowsW : Wt → Option Vl → Option Vl → Nat → List Row
  | .mk s f, ab, ah, d => ⟨s, ab, ah, d⟩ :: rowsL f s none (d + 1)
def rowsL : List Wt → Vl → Option Vl → Nat → List Row
  | [], _, _, _ => []
  | w :: r, s, last, d => rowsW w (some s) last d ++ rowsL r s (some w.s) d
end
mutual
/-- how deep -/
def lonW : Wt → Nat
  | .mk _ f => lonL f
def lonL : List Wt → Nat
  | [] => 0
  | w :: r => max (lonW w + 1) (lonL r)
end
/-- a row as the program has it, as the law has it -/
def prow (r : Row) : Vl := .tup [r.s, r.ab.getD .non, r.ah.getD .non]
def o1 : Option Vl → Vl
  | none => .tup []
  | some a => .tup [a]
def lrow (r : Row) : Vl := .tup [r.s, o1 r.ab, o1 r.ah, .int r.d]
theorem keeps_mid (n : Nat) : ∀ (M : Mm) {A B : Mm}, keepsOk n A B → keepsOk n (M ++ A) (M ++ B)
  | [], _, _, h => h
  | c :: r, A, B, h => by simp only [List.cons_append, keepsOk, true_or, true_and]; exact keeps_mid n r h
theorem leave_last {M : Mm} {A B : List Vl} {σ : Sl} (h : belowL (M.length + 1) B = true) : leave true (M ++ [Cl.lst A]) (.nx σ (M ++ [Cl.lst B])) = .ok .non (M ++ [Cl.lst B]) := by
  have k : keepsOk (M.length + 1) (M ++ [Cl.lst A]) (M ++ [Cl.lst B]) := keeps_mid _ M ⟨.inr (by simpa [Cl.below] using h), trivial⟩
  have b : below (M.length + 1) .non = true := by simp [below]
  have f : frz (M.length + 1) (M ++ [Cl.lst B]) frzFuel .non = .non := frz_pure _ _ _ b
  have l : List.length (M ++ [Cl.lst A]) = M.length + 1 := by simp
  show leaveV (List.length (M ++ [Cl.lst A])) (M ++ [Cl.lst A]) (M ++ [Cl.lst B]) .non = _
  unfold leaveV
  rw [l, f, if_pos ⟨k, b⟩, List.take_of_length_le (by simp)]
theorem dep_we (s : Vl) (f : List Wt) : dep (we (.mk s f)) = max (dep s) (depL (f.map we) + 1) + 1 := by
  rw [we_mk]; simp [dep, depL]
theorem dep_kid {s : Vl} {f : List Wt} {n : Nat} (h : dep (we (.mk s f)) ≤ n + 1) : ∀ w ∈ f, dep (we w) + 1 ≤ n := by
  rw [dep_we] at h
  have : depL (f.map we) ≤ n - 1 := by omega
  intro w hw
  have := dep_mem.mp this (we w) (List.mem_map_of_mem hw)
  omega
theorem pure_we {s : Vl} {f : List Wt} (h : pureR (we (.mk s f)) = true) : pureR s = true ∧ ∀ w ∈ f, pureR (we w) = true := by
  rw [we_mk] at h
  have h : pureR s = true ∧ pureRL (f.map we) = true := by simpa [pureR, pureRL] using h
  exact ⟨h.1, fun w hw => pureRL_iff.mp h.2 _ (List.mem_map_of_mem hw)⟩
theorem pure_ws {w : Wt} (h : pureR (we w) = true) : pureR w.s = true := by cases w; exact (pure_we h).1
def lastS (f : List Wt) (last : Option Vl) : Option Vl := f.foldl (fun _ w => some w.s) last
theorem rowsL_snoc (x : Wt) (s : Vl) (d : Nat) : ∀ (f : List Wt) (last : Option Vl), rowsL (f ++ [x]) s last d = rowsL f s last d ++ rowsW x (some s) (lastS f last) d
  | [], last => by simp [rowsL, lastS]
  | w :: r, last => by
    rw [List.cons_append]
    simp only [rowsL, rowsL_snoc x s d r (some w.s), List.append_assoc]
    rfl
theorem lastS_snoc (x : Wt) (f : List Wt) (last : Option Vl) : lastS (f ++ [x]) last = some x.s := by simp [lastS]
mutual
theorem rows_pure : ∀ {w : Wt} {ab ah : Option Vl} {d : Nat}, pureR (we w) = true → pureR (ab.getD .non) = true → pureR (ah.getD .non) = true →
    ∀ r ∈ rowsW w ab ah d, pureR r.s = true ∧ pureR (r.ab.getD .non) = true ∧ pureR (r.ah.getD .non) = true
  | .mk s f, ab, ah, d, h, h1, h2 => by
    intro r hr
    have q := pure_we h
    rcases List.mem_cons.mp hr with rfl | hr
    · exact ⟨q.1, h1, h2⟩
    · exact rowsL_pure q.2 q.1 rfl r hr
theorem rowsL_pure : ∀ {f : List Wt} {s : Vl} {last : Option Vl} {d : Nat}, (∀ w ∈ f, pureR (we w) = true) → pureR s = true → pureR (last.getD .non) = true →
    ∀ r ∈ rowsL f s last d, pureR r.s = true ∧ pureR (r.ab.getD .non) = true ∧ pureR (r.ah.getD .non) = true
  | [], _, _, _, _, _, _ => by simp [rowsL]
  | w :: f, s, last, d, h, h1, h2 => by
    intro r hr
    rcases List.mem_append.mp hr with hr | hr
    · exact rows_pure (ab := some s) (h w (by simp)) h1 h2 r hr
    · exact rowsL_pure (last := some w.s) (fun x hx => h x (by simp [hx])) h1 (pure_ws (h w (by simp))) r hr
end
theorem prow_pure {r : Row} (h : pureR r.s = true ∧ pureR (r.ab.getD .non) = true ∧ pureR (r.ah.getD .non) = true) : pureR (prow r) = true := by simp [prow, pureR, pureRL, h]
theorem lrow_pure {r : Row} (h : pureR r.s = true ∧ pureR (r.ab.getD .non) = true ∧ pureR (r.ah.getD .non) = true) : pureR (lrow r) = true := by
  obtain ⟨s, ab, ah, d⟩ := r
  cases ab <;> cases ah <;> simp_all [lrow, o1, pureR, pureRL]
theorem rowsL_le (s : Vl) (d k : Nat) (f : List Wt) (last : Option Vl) : (rowsL (f.take k) s last d).length ≤ (rowsL f s last d).length := by
  induction f generalizing k last with
  | nil => simp
  | cons w r ih =>
    cases k with
    | zero => simp [rowsL]
    | succ k =>
      have := ih k (some w.s)
      simp only [List.take_succ_cons, rowsL, List.length_append]
      omega
section
variable (kl : Kls) {T : Tbl} (tA : T "add_rows" = some f_add_rows)
include tA
theorem add_rows_ok : ∀ (n : Nat) (w : Wt), dep (we w) ≤ n → ∀ (M : Mm) (A : List Vl) (ab ah : Option Vl) (d : Nat), pureR (we w) = true → pureR (ab.getD .non) = true → pureR (ah.getD .non) = true → pureRL A = true →
    A.length + (rowsW w ab ah d).length ≤ 16777216 →
    evCall kl T (n + 1) "add_rows" [.ref M.length, we w, ab.getD .non, ah.getD .non] (M ++ [Cl.lst A]) = .ok .non (M ++ [Cl.lst (A ++ (rowsW w ab ah d).map prow)]) := by
  have sl : PySem.sizeLine = 16777216 := by decide
  intro n
  induction n with
  | zero =>
    rintro ⟨s, f⟩ h
    rw [dep_we] at h
    omega
  | succ n ih =>
    rintro ⟨s, f⟩ hd M A ab ah d hp h1 h2 hA hl
    have hk := dep_kid hd
    obtain ⟨ps, pk⟩ := pure_we hp
    rw [call_of tA rfl]
    simp only [f_add_rows]
    let mem := fun (k : Nat) => M ++ [Cl.lst (A ++ ((⟨s, ab, ah, d⟩ : Row) :: rowsL (f.take k) s none (d + 1)).map prow)]
    let σ := fun (o4 : Vl) (o5 : Option Vl) => [some (.ref M.length), some (we (.mk s f)), some (ab.getD .non), some (ah.getD .non), some o4, o5]
    have loop : ∃ o4 o5, evS kl (evCall kl T (n + 1)) f_add_rows_l1 (σ .non none) (mem 0) = .nx (σ o4 o5) (mem f.length) := by
      have e0 : evS kl (evCall kl T (n + 1)) f_add_rows_l1 (σ .non none) (mem 0) =
          forL (fun x σ M => bindT (.nm 5) x σ M) (fun σ M => evSs kl (evCall kl T (n + 1)) f_add_rows_b1 σ M) [] (f.map we) (σ .non none) (mem 0) := by
        simp only [f_add_rows_l1, σ, we_mk]
        simp_all_arith! []
      rw [e0]
      refine forL_inv (Q := fun r => ∃ o4 o5, r = .nx (σ o4 o5) (mem f.length)) (fun k σ' M' => ∃ o5, σ' = σ ((lastS (f.take k) none).getD .non) o5 ∧ M' = mem k) ?_ ?_ ?_ ?_
      · exact ⟨none, rfl, rfl⟩
      · exact fun _ _ _ _ _ => trivial
      · rintro k hk' _ _ ⟨o5, rfl, rfl⟩
        have hk2 : k < f.length := by simpa using hk'
        have hm : f[k] ∈ f := List.getElem_mem hk2
        have tk : f.take (k + 1) = f.take k ++ [f[k]] := by simp
        rw [List.getElem_map]
        have vw := varV_R (pk f[k] hm)
        have pl : pureR ((lastS (f.take k) none).getD .non) = true := by
          cases k with
          | zero => rfl
          | succ k =>
            have tk' : f.take (k + 1) = f.take k ++ [f[k]] := by simp
            rw [tk', lastS_snoc]
            exact pure_ws (pk _ (List.getElem_mem _))
        have vl := varV_R pl
        have le := rowsL_le s (d + 1) (k + 1) f none
        rw [tk, rowsL_snoc, List.length_append] at le
        have lw : (rowsW (.mk s f) ab ah d).length = (rowsL f s none (d + 1)).length + 1 := by simp [rowsW]
        have e := ih f[k] (by have := hk _ hm; omega) M (A ++ ((⟨s, ab, ah, d⟩ : Row) :: rowsL (f.take k) s none (d + 1)).map prow) (some s) (lastS (f.take k) none) (d + 1) (pk _ hm) ps pl
          (by
            rw [pureRL_app, hA, Bool.true_and, pureRL_iff]
            intro x hx
            obtain ⟨r, hr, rfl⟩ := List.mem_map.mp hx
            refine prow_pure ?_
            rcases List.mem_cons.mp hr with rfl | hr
            · exact ⟨ps, h1, h2⟩
            · exact rowsL_pure (last := none) (fun x hx => pk x (List.mem_of_mem_take hx)) ps rfl r hr)
          (by simp only [List.length_append, List.length_map, List.length_cons]; omega)
        refine ⟨_, rfl, ?_⟩
        rw [Option.getD_some] at e
        have rk : rowsL (f.take (k + 1)) s none (d + 1) = rowsL (f.take k) s none (d + 1) ++ rowsW f[k] (some s) (lastS (f.take k) none) (d + 1) := by rw [tk, rowsL_snoc]
        have lk : lastS (f.take (k + 1)) none = some f[k].s := by rw [tk, lastS_snoc]
        have res : evSs kl (evCall kl T (n + 1)) f_add_rows_b1 ((σ ((lastS (f.take k) none).getD .non) o5).set 5 (some (we f[k]))) (mem k) = .nx (σ f[k].s (some (we f[k]))) (mem (k + 1)) := by
          clear ih
          simp only [mem, rk]
          simp only [List.map_cons, List.map_append, List.append_assoc, List.cons_append] at e ⊢
          generalize (rowsL (f.take k) s none (d + 1)).map prow = R at *
          generalize (rowsW f[k] (some s) (lastS (f.take k) none) (d + 1)).map prow = R2 at *
          generalize (lastS (f.take k) none).getD .non = L at *
          generalize f[k] = w2 at *
          obtain ⟨s2, f2⟩ := w2
          simp only [we_mk, f_add_rows_b1, σ, Wt.s] at e vw ⊢
          simp_arith [e, vl, varV_R ps]
        show Stp _ _ (evSs kl (evCall kl T (n + 1)) f_add_rows_b1 _ _)
        rw [res]
        exact ⟨some (we f[k]), by rw [lk]; rfl, rfl⟩
      · rintro _ _ ⟨o5, rfl, rfl⟩
        simp only [List.length_map]
        exact ⟨_, _, rfl⟩
    obtain ⟨o4, o5, loop⟩ := loop
    have lA : (A.length < PySem.sizeLine) = True := by
      refine eq_true ?_
      simp only [rowsW, List.length_cons] at hl
      omega
    have er : A ++ (rowsW (.mk s f) ab ah d).map prow = A ++ ((⟨s, ab, ah, d⟩ : Row) :: rowsL (f.take f.length) s none (d + 1)).map prow := by rw [List.take_length]; rfl
    rw [er]
    have fin : evSs kl (evCall kl T (n + 1)) f_add_rows.body (startS f_add_rows [.ref M.length, we (.mk s f), ab.getD .non, ah.getD .non]) (M ++ [Cl.lst A]) = .nx (σ o4 o5) (mem f.length) := by
      simp only [f_add_rows]
      have e1 : mem 0 = M ++ [Cl.lst (A ++ [prow ⟨s, ab, ah, d⟩])] := by simp [mem, rowsL]
      rw [e1] at loop
      simp only [σ, we_mk] at loop ⊢
      generalize mem f.length = Z at *
      simp_arith! [varV_R h1, varV_R h2, varV_R ps, cellL, setL, lA, loop]
      simp only [prow] at loop
      simp_arith! [loop]
    simp only [f_add_rows] at fin
    rw [fin]
    exact leave_last (by
      refine belowL_iff.mpr fun x hx => below_R _ ?_
      rcases List.mem_append.mp hx with hx | hx
      · exact pureRL_iff.mp hA x hx
      · obtain ⟨r, hr, rfl⟩ := List.mem_map.mp hx
        rw [List.take_length] at hr
        exact prow_pure (rows_pure (w := .mk s f) hp h1 h2 r hr))
end
section
variable (kl : Kls) {T : Tbl} (tA : T "add_rows" = some f_add_rows) (tR : T "rows_of" = some f_rows_of)
include tA tR
theorem rows_of_ok (n : Nat) (w : Wt) (M : Mm) (hd : dep (we w) ≤ n) (hp : pureR (we w) = true) (hl : (rowsW w none none 0).length ≤ 16777216) :
    evCall kl T (n + 2) "rows_of" [we w] M = .ok (.lst ((rowsW w none none 0).map prow)) M := by
  have e := add_rows_ok kl tA n w hd M [] none none 0 hp rfl rfl rfl (by simpa using hl)
  rw [call_of tR rfl]
  simp only [f_rows_of, Option.getD_none, List.nil_append] at e ⊢
  simp_arith! [varV_R hp, e]
  exact leave_ref0 (belowL_iff.mpr fun x hx => by
    obtain ⟨r, hr, rfl⟩ := List.mem_map.mp hx
    exact below_R _ (prow_pure (rows_pure hp rfl rfl r hr)))
end
end Sx
end

section
set_option Elab.async false
set_option linter.all false
set_option maxRecDepth 100000
/-! Sg, part 38: what is wrong with a value as a way. -/
namespace Sx
open Sg
open PySem (Str PyData)
local macro_rules
| `(tactic| simp_arith [$ls,*]) => `(tactic| simp (config := { decide := false, implicitDefEqProofs := false }) only [↓e_var, ↓e_cst, ↓e_glb, ↓e_tup,
    ↓e_lst, ↓e_dct, ↓e_dic, ↓e_bin, ↓e_neg, ↓e_not, ↓e_and, ↓e_or, ↓e_cmp, ↓e_cmp2, ↓e_ite, ↓e_idx, ↓e_sl, ↓e_rev, ↓e_comp, ↓e_call, ↓e_callk, ↓e_bi,
    ↓e_src, ↓e_meth, ↓e_xfld, ↓e_xisi, ↓es_nil, ↓es_cons, ↓cs_nil, ↓cs_one, ↓oe_no, ↓oe_so, ↓sr_val, ↓sr_enum, ↓sr_zip, ↓sr_rng1, ↓sr_rng2, ↓s_expr,
    ↓s_set, ↓s_setT, ↓s_par, ↓s_setI, ↓s_augI, ↓s_augN, ↓s_ret, ↓s_retN, ↓s_ife, ↓s_for, ↓s_raise, ↓s_try, ↓s_pass, ↓s_brk, ↓s_cnt, ↓ss_nil, ↓ss_cons,
    ↓hs_nil, ↓hs_cons, ↓hs_none, evKs, bindI_ok, bindI_exc, bindI_bad, thnI_ok, thnI_exc, thnI_bad, sthnI_nx, sthnI_brk, sthnI_cnt, sthnI_ret,
    sthnI_exc, sthnI_bad, R.of_some, R.of_none, R.bind_ok, R.thn_ok, RS.thn_nx, List.getElem?_cons_zero, List.getElem?_cons_succ, List.set_cons_zero,
    List.set_cons_succ, Option.bind_some, Option.bind_none, Option.map_some, Option.map_none, id, varV_non, varV_bl, varV_int, varV_str, varV_tup,
    varV_lst, varV_ref, varV_scr, varV_dic, rd_dic, rd_non, rd_bl, rd_int, rd_str, rd_tup, rd_lst, rd_scr, seq_tup, seq_lst, seqLst_lst, tru_bl,
    tru_non, mkL_f, mkL_c, startS_def, List.map_cons, List.map_nil, List.cons_append, List.nil_append, List.replicate_succ, List.replicate_zero,
    Nat.sub_self, Nat.reduceSub, Nat.reduceAdd, bin2, addV, cmpV, eqR_P, eqP_int, inR_P, pureL_ints, pureL_nats, pureL_nil, pureL_cons, Bool.and_true,
    Bool.true_and, List.isEmpty_cons, List.isEmpty_nil, Bool.not_false, Bool.not_true, inP_ints, inP_nats, eqP_lnil, eqP_tnil, intsOf_map, rd_b1,
    rd_b2, pureV, setIV, augGet, methV, methL, setL, bindT, wipeS, List.foldr_cons, List.foldr_nil, setAll, intOf, slV, cutL_take, cutL_drop,
    cutL_drop1, cutL_take1, ordV, isNon, biV, keyOf_str, keyOf_int, lookK_cons, lookK_nil, idxV, rd_r, cellL, lt_line, getD_z, getD_s, Int.ofNat_inj,
    cast0, cast1, cast0', List.dropLast_concat, last_app, last_app', last_map, Nat.add_sub_cancel, Nat.zero_add, List.map_append, Int.ofNat_lt,
    Int.ofNat_le, Nat.reduceLT, List.zip_cons_cons, List.zip_nil_left, List.zip_nil_right, List.foldl_cons, List.foldl_nil, List.any_cons,
    List.any_nil, decide_true, decide_false, Bool.or_true, Bool.true_or, Bool.or_false, Bool.false_or, Bool.false_eq_true, place_zero, place_1,
    place_2, place_3, place_4, List.length_cons, List.length_map, List.length_append, List.length_nil, Option.some.injEq, Sum.inr.injEq, Sum.inl.injEq,
    Int.reduceLT, Int.reduceLE, true_and, and_true, and_self, List.isEmpty_map, reduceIte, reduceCtorEq, if_true, if_false, $ls,*])
local macro_rules
  | `(tactic| simp_all_arith [$ls,*]) => `(tactic| simp_arith [bgm_len, bgm_app, bgm_get0, bgm_get1, bgm_get2, bgm_set0, bgm_set1, bgm_set2, List.append_assoc, Nat.add_assoc, $ls,*])
local macro_rules
  | `(tactic| simp_arith! [$ls,*]) => `(tactic| simp_arith [varV_net, rd_net, get_app, get_app0, set_app, set_app0, List.append_assoc, Nat.add_assoc, $ls,*])
local macro_rules
  | `(tactic| simp_all_arith! [$ls,*]) => `(tactic| simp_arith! [varV_wv, rd_wv, varV_st, rd_st, bgm_len, bgm_app, bgm_get0, bgm_get1, bgm_get2, bgm_set0, bgm_set1, bgm_set2, $ls,*])
def f_is_integer : Fn := { np := 1, nl := 1, fz := true, body := (.cons (.ret (.and (.bi (.isi .int) (.cons (.var 0) .nil)) (.not (.bi (.isi .bool) (.cons (.var 0) .nil))))) .nil) }
def f_is_number_below : Fn := { np := 2, nl := 2, fz := true, body := (.cons (.ret (.and (.call "is_integer" (.cons (.var 0) .nil)) (.cmp2 .le .lt (.cst (.int 0)) (.var 0) (.var 1)))) .nil) }
def f_pair_error_b1 : Ss := (.cons (.ife (.and (.cmp .nisn (.idx (.var 3) (.cst (.int 2))) (.cst .non)) (.cmp .le (.idx (.var 3) (.cst (.int 0))) (.idx (.var 3) (.cst (.int 2))))) (.cons (.ret (.tup (.cons (.cst (.str (PySem.Str.ofString "order"))) (.cons (.var 2) .nil)))) .nil) .nil) .nil)
def f_pair_error_l1 : S := (.for_ (.tp [2, 3]) (.enum (.var 1)) f_pair_error_b1)
def f_pair_error_b2 : Ss := (.cons (.ife (.and (.cmp .nisn (.idx (.var 3) (.cst (.int 1))) (.cst .non)) (.cmp .nin (.tup (.cons (.idx (.var 3) (.cst (.int 1))) (.cons (.idx (.var 3) (.cst (.int 0))) .nil))) (.idx (.var 0) (.cst (.int 1))))) (.cons (.ret (.tup (.cons (.cst (.str (PySem.Str.ofString "line"))) (.cons (.var 2) .nil)))) .nil) .nil) .nil)
def f_pair_error_l2 : S := (.for_ (.tp [2, 3]) (.enum (.var 1)) f_pair_error_b2)
def f_pair_error_b3 : Ss := (.cons (.ife (.not (.call "is_number_below" (.cons (.idx (.var 3) (.cst (.int 0))) (.cons (.bi .len (.cons (.idx (.var 0) (.cst (.int 0))) .nil)) .nil)))) (.cons (.ret (.tup (.cons (.cst (.str (PySem.Str.ofString "station"))) (.cons (.var 2) .nil)))) .nil) .nil) .nil)
def f_pair_error_l3 : S := (.for_ (.tp [2, 3]) (.enum (.var 1)) f_pair_error_b3)
def f_pair_error : Fn := { np := 2, nl := 4, fz := true, body := (.cons f_pair_error_l3 (.cons f_pair_error_l2 (.cons f_pair_error_l1 (.cons (.ret (.cst .non)) .nil)))) }
def f_longest_c1 : E := (.comp true (.bin .add true (.call "longest" (.cons (.var 1) .nil)) (.cst (.int 1))) (.nm 1) (.val (.idx (.var 0) (.cst (.int 1)))) .nil [1])
def f_longest : Fn := { np := 1, nl := 2, fz := true, body := (.cons (.ret (.bi .max1 (.cons (.bin .add true (.lst true (.cons (.cst (.int 0)) .nil)) f_longest_c1) .nil))) .nil) }
def f_way_error : Fn := { np := 2, nl := 3, fz := true, body := (.cons (.ife (.not (.call "is_built" (.cons (.var 1) .nil))) (.cons (.ret (.cst (.str (PySem.Str.ofString "form")))) .nil) .nil) (.cons (.set 2 (.call "rows_of" (.cons (.var 1) .nil))) (.cons (.ife (.cmp .gt (.bi .len (.cons (.var 2) .nil)) (.glb "MAX_PAIRS" (.int 40))) (.cons (.ret (.cst (.str (PySem.Str.ofString "pairs")))) .nil) .nil) (.cons (.ife (.cmp .gt (.call "longest" (.cons (.var 1) .nil)) (.glb "MAX_STEPS" (.int 12))) (.cons (.ret (.cst (.str (PySem.Str.ofString "steps")))) .nil) .nil) (.cons (.ret (.call "pair_error" (.cons (.var 0) (.cons (.var 2) .nil)))) .nil))))) }
def f__law_is_whole : Fn := { np := 3, nl := 3, fz := true, body := (.cons (.ret (.and (.bi (.isi .int) (.cons (.var 0) .nil)) (.and (.not (.bi (.isi .bool) (.cons (.var 0) .nil))) (.cmp2 .le .le (.var 1) (.var 0) (.var 2))))) .nil) }
def f__law_pairs_b1 : Ss := (.cons (.set 4 (.bin .add true (.var 4) (.call "_law_pairs" (.cons (.var 6) (.cons (.tup (.cons (.idx (.var 0) (.cst (.int 0))) .nil)) (.cons (.var 5) (.cons (.bin .add true (.var 3) (.cst (.int 1))) .nil))))))) (.cons (.set 5 (.tup (.cons (.idx (.var 6) (.cst (.int 0))) .nil))) .nil))
def f__law_pairs_l1 : S := (.for_ (.nm 6) (.val (.idx (.var 0) (.cst (.int 1)))) f__law_pairs_b1)
def f__law_pairs : Fn := { np := 4, nl := 7, fz := true, body := (.cons (.par [4, 5] (.cons (.lst true (.cons (.tup (.cons (.idx (.var 0) (.cst (.int 0))) (.cons (.var 1) (.cons (.var 2) (.cons (.var 3) .nil))))) .nil)) (.cons (.tup .nil) .nil))) (.cons f__law_pairs_l1 (.cons (.ret (.var 4)) .nil))) }
def f__law_way_slip_b1 : Ss := (.cons (.ife (.and (.cmp .ne (.idx (.var 3) (.cst (.int 2))) (.tup .nil)) (.cmp .le (.idx (.var 3) (.cst (.int 0))) (.idx (.idx (.var 3) (.cst (.int 2))) (.cst (.int 0))))) (.cons (.ret (.tup (.cons (.cst (.str (PySem.Str.ofString "order"))) (.cons (.var 4) .nil)))) .nil) .nil) .nil)
def f__law_way_slip_l1 : S := (.for_ (.tp [4, 3]) (.enum (.var 2)) f__law_way_slip_b1)
def f__law_way_slip_b2 : Ss := (.cons (.ife (.and (.cmp .ne (.idx (.var 3) (.cst (.int 1))) (.tup .nil)) (.cmp .nin (.tup (.cons (.idx (.idx (.var 3) (.cst (.int 1))) (.cst (.int 0))) (.cons (.idx (.var 3) (.cst (.int 0))) .nil))) (.idx (.var 0) (.cst (.int 1))))) (.cons (.ret (.tup (.cons (.cst (.str (PySem.Str.ofString "line"))) (.cons (.var 4) .nil)))) .nil) .nil) .nil)
def f__law_way_slip_l2 : S := (.for_ (.tp [4, 3]) (.enum (.var 2)) f__law_way_slip_b2)
def f__law_way_slip_b3 : Ss := (.cons (.ife (.not (.call "_law_is_whole" (.cons (.idx (.var 3) (.cst (.int 0))) (.cons (.cst (.int 0)) (.cons (.bin .sub true (.bi .len (.cons (.idx (.var 0) (.cst (.int 0))) .nil)) (.cst (.int 1))) .nil))))) (.cons (.ret (.tup (.cons (.cst (.str (PySem.Str.ofString "station"))) (.cons (.var 4) .nil)))) .nil) .nil) .nil)
def f__law_way_slip_l3 : S := (.for_ (.tp [4, 3]) (.enum (.var 2)) f__law_way_slip_b3)
def f__law_way_slip_c1 : E := (.comp true (.idx (.var 3) (.cst (.int 3))) (.nm 3) (.val (.var 2)) .nil [3])
def f__law_way_slip : Fn := { np := 2, nl := 5, fz := true, body := (.cons (.ife (.not (.call "_law_is_built" (.cons (.var 1) .nil))) (.cons (.ret (.cst (.str (PySem.Str.ofString "form")))) .nil) .nil) (.cons (.set 2 (.call "_law_pairs" (.cons (.var 1) (.cons (.tup .nil) (.cons (.tup .nil) (.cons (.cst (.int 0)) .nil)))))) (.cons (.ife (.cmp .gt (.bi .len (.cons (.var 2) .nil)) (.cst (.int 40))) (.cons (.ret (.cst (.str (PySem.Str.ofString "pairs")))) .nil) .nil) (.cons (.ife (.cmp .gt (.bi .max1 (.cons f__law_way_slip_c1 .nil)) (.cst (.int 12))) (.cons (.ret (.cst (.str (PySem.Str.ofString "steps")))) .nil) .nil) (.cons f__law_way_slip_l3 (.cons f__law_way_slip_l2 (.cons f__law_way_slip_l1 (.cons (.ret (.cst .non)) .nil)))))))) }
/-! ### the longest branch -/
theorem maxI_spec : ∀ (a : Int) (l : List Int), maxI (a :: l) ∈ a :: l ∧ ∀ x ∈ a :: l, x ≤ maxI (a :: l)
  | a, [] => by simp [maxI]
  | a, b :: r => by
    have q := maxI_spec b r
    have e : maxI (a :: b :: r) = max a (maxI (b :: r)) := rfl
    rw [e]
    refine ⟨?_, fun x hx => ?_⟩
    · rcases Int.le_total a (maxI (b :: r)) with h | h
      · rw [Int.max_eq_right h]; exact List.mem_cons_of_mem _ q.1
      · rw [Int.max_eq_left h]; exact List.mem_cons_self ..
    · rcases List.mem_cons.mp hx with rfl | hx
      · exact Int.le_max_left _ _
      · exact Int.le_trans (q.2 x hx) (Int.le_max_right _ _)
theorem maxI_eq {l : List Int} {m : Int} (h : m ∈ l) (hm : ∀ x ∈ l, x ≤ m) : maxI l = m := by
  cases l with
  | nil => cases h
  | cons a r =>
    have q := maxI_spec a r
    exact Int.le_antisymm (hm _ q.1) (q.2 _ h)
theorem lonL_le : ∀ {f : List Wt} {w : Wt}, w ∈ f → lonW w + 1 ≤ lonL f
  | x :: r, w, h => by
    simp only [lonL]
    rcases List.mem_cons.mp h with rfl | h
    · omega
    · have := lonL_le h; omega
theorem lonL_ex : ∀ {f : List Wt}, f ≠ [] → ∃ w ∈ f, lonL f = lonW w + 1
  | [], h => absurd rfl h
  | [w], _ => ⟨w, by simp, by simp [lonL]⟩
  | w :: y :: r, _ => by
    obtain ⟨z, hz, e⟩ := lonL_ex (f := y :: r) (by simp)
    have q : lonL (w :: y :: r) = max (lonW w + 1) (lonL (y :: r)) := rfl
    by_cases h : lonW w + 1 ≤ lonL (y :: r)
    · exact ⟨z, List.mem_cons_of_mem _ hz, by rw [q]; omega⟩
    · exact ⟨w, by simp, by rw [q]; omega⟩
theorem maxI_lon (f : List Wt) : maxI (0 :: f.map fun w => ((lonW w : Int) + 1)) = (lonL f : Int) := by
  refine maxI_eq ?_ ?_
  · cases f with
    | nil => simp [lonL]
    | cons w r =>
      obtain ⟨z, hz, e⟩ := lonL_ex (f := w :: r) (by simp)
      refine List.mem_cons_of_mem _ (List.mem_map.mpr ⟨z, hz, by omega⟩)
  · intro x hx
    rcases List.mem_cons.mp hx with rfl | hx
    · omega
    · obtain ⟨w, hw, rfl⟩ := List.mem_map.mp hx
      have := lonL_le hw
      omega
theorem blt_kid {s : Vl} {f : List Wt} (h : blt (we (.mk s f)) = true) : f.length ≤ 3 ∧ ∀ w ∈ f, blt (we w) = true := by
  rw [we_mk, blt_t2, Bool.and_eq_true, decide_eq_true_eq, List.length_map, List.all_eq_true] at h
  exact ⟨h.1, fun w hw => h.2 _ (List.mem_map_of_mem hw)⟩
theorem varV_we (w : Wt) : varV (some (we w)) = some (we w) := by obtain ⟨s, f⟩ := w; rw [we_mk]; rfl
section
variable (kl : Kls) {T : Tbl} (tL : T "longest" = some f_longest)
include tL
theorem longest_ok : ∀ (n : Nat) (w : Wt) (M : Mm), dep (we w) ≤ n → blt (we w) = true → evCall kl T (n + 1) "longest" [we w] M = .ok (.int (lonW w)) M := by
  have sl : PySem.sizeLine = 16777216 := by decide
  intro n
  induction n with
  | zero =>
    rintro ⟨s, f⟩ M h
    rw [dep_we] at h
    omega
  | succ n ih =>
    rintro ⟨s, f⟩ M hd hb
    have hk := dep_kid hd
    obtain ⟨h3, bk⟩ := blt_kid hb
    rw [call_of tL rfl]
    simp only [f_longest]
    have c1 : evE kl (evCall kl T (n + 1)) f_longest_c1 [some (we (.mk s f)), none] M = .ok (.lst ((f.map fun w => ((lonW w : Int) + 1)).map .int)) M := by
      simp only [f_longest_c1, we_mk]
      simp_all_arith! []
      rw [compI_map0 we (fun _ => true) (fun w => .int ((lonW w : Int) + 1)) f ?_ (by omega)]
      · have ft : f.filter (fun _ => true) = f := by simp
        rw [ft, List.map_map]
        rfl
      · intro x hx
        refine ⟨_, rfl, rfl, fun _ => ?_⟩
        have e := ih x M (by have := hk x hx; omega) (bk x hx)
        simp_arith [varV_we, e]
    have e2 : intsOf (.int 0 :: (f.map fun w => ((lonW w : Int) + 1)).map .int) = some (0 :: f.map fun w => ((lonW w : Int) + 1)) := intsOf_map (0 :: f.map fun w => ((lonW w : Int) + 1))
    have l1 : (1 + f.length ≤ PySem.sizeLine) = True := eq_true (by omega)
    simp_all_arith! [c1, l1, e2, maxI_lon]
    exact leave_ret0 (by simp [below])
end
section
variable (kl : Kls) {T : Tbl} (tP : T "_law_pairs" = some f__law_pairs)
include tP
theorem pairs_ok : ∀ (n : Nat) (w : Wt), dep (we w) ≤ n → ∀ (M : Mm) (ab ah : Option Vl) (d : Nat), pureR (we w) = true → pureR (ab.getD .non) = true → pureR (ah.getD .non) = true →
    (rowsW w ab ah d).length ≤ 16777216 →
    evCall kl T (n + 1) "_law_pairs" [we w, o1 ab, o1 ah, .int d] M = .ok (.lst ((rowsW w ab ah d).map lrow)) M := by
  have sl : PySem.sizeLine = 16777216 := by decide
  have vo : ∀ x, varV (some (o1 x)) = some (o1 x) := fun x => by cases x <;> rfl
  intro n
  induction n with
  | zero =>
    rintro ⟨s, f⟩ h
    rw [dep_we] at h
    omega
  | succ n ih =>
    rintro ⟨s, f⟩ hd M ab ah d hp h1 h2 hl
    have hk := dep_kid hd
    obtain ⟨ps, pk⟩ := pure_we hp
    rw [call_of tP rfl]
    simp only [f__law_pairs]
    let R := fun (k : Nat) => ((⟨s, ab, ah, d⟩ : Row) :: rowsL (f.take k) s none (d + 1)).map lrow
    let σ := fun (k : Nat) (o6 : Option Vl) => [some (we (.mk s f)), some (o1 ab), some (o1 ah), some (.int d), some (.lst (R k)), some (o1 (lastS (f.take k) none)), o6]
    have loop : ∃ o6, evS kl (evCall kl T (n + 1)) f__law_pairs_l1 (σ 0 none) M = .nx (σ f.length o6) M := by
      have e0 : evS kl (evCall kl T (n + 1)) f__law_pairs_l1 (σ 0 none) M =
          forL (fun x σ M => bindT (.nm 6) x σ M) (fun σ M => evSs kl (evCall kl T (n + 1)) f__law_pairs_b1 σ M) [] (f.map we) (σ 0 none) M := by
        simp only [f__law_pairs_l1, σ, we_mk]
        simp_all_arith! []
      rw [e0]
      refine forL_inv (Q := fun r => ∃ o6, r = .nx (σ f.length o6) M) (fun k σ' M' => ∃ o6, σ' = σ k o6 ∧ M' = M) ?_ ?_ ?_ ?_
      · exact ⟨none, rfl, rfl⟩
      · exact fun _ _ _ _ _ => trivial
      · rintro k hk' _ M ⟨o6, rfl, rfl⟩
        have hk2 : k < f.length := by simpa using hk'
        have hm : f[k] ∈ f := List.getElem_mem hk2
        have tk : f.take (k + 1) = f.take k ++ [f[k]] := by simp
        rw [List.getElem_map]
        have vw := varV_R (pk f[k] hm)
        have pl : pureR ((lastS (f.take k) none).getD .non) = true := by
          cases k with
          | zero => rfl
          | succ k =>
            have tk' : f.take (k + 1) = f.take k ++ [f[k]] := by simp
            rw [tk', lastS_snoc]
            exact pure_ws (pk _ (List.getElem_mem _))
        have le := rowsL_le s (d + 1) (k + 1) f none
        rw [tk, rowsL_snoc, List.length_append] at le
        have lw : (rowsW (.mk s f) ab ah d).length = (rowsL f s none (d + 1)).length + 1 := by simp [rowsW]
        have e := ih f[k] (by have := hk _ hm; omega) M (some s) (lastS (f.take k) none) (d + 1) (pk _ hm) ps pl (by omega)
        refine ⟨_, rfl, ?_⟩
        have rk : rowsL (f.take (k + 1)) s none (d + 1) = rowsL (f.take k) s none (d + 1) ++ rowsW f[k] (some s) (lastS (f.take k) none) (d + 1) := by rw [tk, rowsL_snoc]
        have lk : lastS (f.take (k + 1)) none = some f[k].s := by rw [tk, lastS_snoc]
        have lz : ((rowsL (f.take k) s none (d + 1)).length + (1 + (rowsW f[k] (some s) (lastS (f.take k) none) (d + 1)).length) ≤ PySem.sizeLine) = True := eq_true (by omega)
        have res : evSs kl (evCall kl T (n + 1)) f__law_pairs_b1 ((σ k o6).set 6 (some (we f[k]))) M = .nx (σ (k + 1) (some (we f[k]))) M := by
          clear ih
          simp only [σ, R, rk, lk]
          simp only [List.map_cons, List.map_append]
          have e1 : ((d + 1 : Nat) : Int) = (d : Int) + 1 := by omega
          have e2 : o1 (some s) = .tup [s] := rfl
          rw [e1, e2] at e
          have vl := vo (lastS (f.take k) none)
          generalize rowsL (f.take k) s none (d + 1) = R1 at *
          generalize rowsW f[k] (some s) (lastS (f.take k) none) (d + 1) = R2 at *
          generalize lastS (f.take k) none = L at *
          generalize f[k] = w2 at *
          obtain ⟨s2, f2⟩ := w2
          simp only [we_mk, f__law_pairs_b1, Wt.s] at e vw ⊢
          simp_all_arith! [e, vl, varV_R ps, lz]
          rfl
        show Stp _ _ (evSs kl (evCall kl T (n + 1)) f__law_pairs_b1 _ _)
        rw [res]
        exact ⟨some (we f[k]), rfl, rfl⟩
      · rintro _ _ ⟨o6, rfl, rfl⟩
        simp only [List.length_map]
        exact ⟨_, rfl⟩
    obtain ⟨o6, loop⟩ := loop
    have fin : evSs kl (evCall kl T (n + 1)) f__law_pairs.body (startS f__law_pairs [we (.mk s f), o1 ab, o1 ah, .int d]) M = .ret (.lst (R f.length)) M := by
      simp only [f__law_pairs]
      have r0 : R 0 = [lrow ⟨s, ab, ah, d⟩] := by simp [R, rowsL]
      have l0 : o1 (lastS (f.take 0) none) = .tup [] := rfl
      simp only [σ, we_mk, r0, l0] at loop ⊢
      generalize R f.length = Z at *
      simp only [lrow] at loop
      simp_arith! [vo, varV_R ps, loop]
    simp only [f__law_pairs] at fin
    rw [fin]
    have er : (rowsW (.mk s f) ab ah d).map lrow = R f.length := by simp only [R]; rw [List.take_length]; rfl
    rw [er]
    exact leave_ret0 (by
      rw [← er]
      simp only [below]
      refine belowL_iff.mpr fun x hx => below_R _ ?_
      obtain ⟨r, hr, rfl⟩ := List.mem_map.mp hx
      exact lrow_pure (rows_pure (w := .mk s f) hp h1 h2 r hr))
end
/-! ### depths -/
mutual
theorem deep_le : ∀ (w : Wt) (ab ah : Option Vl) (d : Nat), (∀ r ∈ rowsW w ab ah d, d ≤ r.d ∧ r.d ≤ d + lonW w) ∧ ∃ r ∈ rowsW w ab ah d, r.d = d + lonW w
  | .mk s f, ab, ah, d => by
    have q := deepL_le f s none (d + 1)
    refine ⟨fun r hr => ?_, ?_⟩
    · rcases List.mem_cons.mp hr with rfl | hr
      · simp
      · have := q.1 r hr
        simp only [lonW]
        omega
    · cases f with
      | nil => exact ⟨⟨s, ab, ah, d⟩, by simp [rowsW], by simp [lonW, lonL]⟩
      | cons w r =>
        obtain ⟨x, hx, e⟩ := q.2 (by simp)
        refine ⟨x, List.mem_cons_of_mem _ hx, ?_⟩
        have : 1 ≤ lonL (w :: r) := by simp only [lonL]; omega
        simp only [lonW]
        omega
theorem deepL_le : ∀ (f : List Wt) (s : Vl) (last : Option Vl) (d : Nat), (∀ r ∈ rowsL f s last d, d ≤ r.d ∧ r.d + 1 ≤ d + lonL f) ∧ (f ≠ [] → ∃ r ∈ rowsL f s last d, r.d + 1 = d + lonL f)
  | [], _, _, _ => by simp [rowsL]
  | w :: g, s, last, d => by
    have q := deep_le w (some s) last d
    have q2 := deepL_le g s (some w.s) d
    refine ⟨fun r hr => ?_, fun _ => ?_⟩
    · simp only [lonL]
      rcases List.mem_append.mp hr with hr | hr
      · have := q.1 r hr; omega
      · have := q2.1 r hr; omega
    · by_cases h : lonL g ≤ lonW w + 1
      · obtain ⟨x, hx, e⟩ := q.2
        exact ⟨x, List.mem_append_left _ hx, by simp only [lonL]; omega⟩
      · have hg : g ≠ [] := fun e => by subst e; simp [lonL] at h
        obtain ⟨x, hx, e⟩ := q2.2 hg
        exact ⟨x, List.mem_append_right _ hx, by simp only [lonL]; omega⟩
end
theorem maxI_deep (w : Wt) (ab ah : Option Vl) : maxI ((rowsW w ab ah 0).map fun r => (r.d : Int)) = (lonW w : Int) := by
  have q := deep_le w ab ah 0
  obtain ⟨x, hx, e⟩ := q.2
  refine maxI_eq (List.mem_map.mpr ⟨x, hx, by omega⟩) fun y hy => ?_
  obtain ⟨r, hr, rfl⟩ := List.mem_map.mp hy
  have := q.1 r hr
  omega
/-! ### the first row that is wrong -/
def word (s : String) : Vl := .str (Str.ofString s)
theorem find_loop {enc : Row → Vl} {p : Row → Bool} {wd : Vl} {M : Mm} {bd : Vl → Sl → Mm → Option Sl} {body : Sl → Mm → RS} (J : Sl → Prop) (rows : List Row) {σ0 : Sl} (h0 : J σ0)
    (step : ∀ k (hk : k < rows.length) σ, J σ → ∃ σ1, bd (.tup [.int k, enc rows[k]]) σ M = some σ1 ∧ ((p rows[k] = true ∧ body σ1 M = .ret (.tup [wd, iv k]) M) ∨ (p rows[k] = false ∧ ∃ σ2, J σ2 ∧ body σ1 M = .nx σ2 M))) :
    (∃ k, rows.findIdx? p = some k ∧ forL bd body [] (enumV (rows.map enc)) σ0 M = .ret (.tup [wd, iv k]) M) ∨
    ((∀ r ∈ rows, p r = false) ∧ rows.findIdx? p = none ∧ ∃ σ, J σ ∧ forL bd body [] (enumV (rows.map enc)) σ0 M = .nx σ M) := by
  rw [enumV_map]
  refine forL_inv (Q := fun z => (∃ k, rows.findIdx? p = some k ∧ z = .ret (.tup [wd, iv k]) M) ∨ ((∀ r ∈ rows, p r = false) ∧ rows.findIdx? p = none ∧ ∃ σ, J σ ∧ z = .nx σ M))
    (fun k σ M' => J σ ∧ M' = M ∧ ∀ j (hj : j < rows.length), j < k → p rows[j] = false) ⟨h0, rfl, fun _ _ h => by omega⟩ (fun _ _ _ _ _ => trivial) ?_ ?_
  · rintro k hk σ M' ⟨j0, rfl, hf⟩
    have hk2 : k < rows.length := by simpa using hk
    have e : (rows.zipIdx.map fun q => Vl.tup [.int q.2, enc q.1])[k] = .tup [.int k, enc rows[k]] := by simp
    rw [e]
    obtain ⟨σ1, e1, h⟩ := step k hk2 σ j0
    refine ⟨σ1, e1, ?_⟩
    rcases h with ⟨h1, h2⟩ | ⟨h1, σ2, j2, h2⟩
    · rw [h2]
      refine .inl ⟨k, List.findIdx?_eq_some_iff_getElem.mpr ⟨hk2, h1, fun j hj => ?_⟩, rfl⟩
      rw [hf j (by omega) hj]
      exact Bool.false_ne_true
    · rw [h2]
      refine ⟨j2, rfl, fun j hj hjk => ?_⟩
      by_cases q : j = k
      · subst q; exact h1
      · exact hf j hj (by omega)
  · rintro σ M' ⟨j0, rfl, hf⟩
    have all : ∀ r ∈ rows, p r = false := fun r hr => by
      obtain ⟨j, hj, rfl⟩ := List.mem_iff_getElem.mp hr
      exact hf j hj (by simpa using hj)
    exact .inr ⟨all, List.findIdx?_eq_none_iff.mpr all, σ, j0, rfl⟩
/-- a station of m -/
def isNat (m : Nat) : Vl → Bool
  | .int i => decide (0 ≤ i ∧ i < m)
  | _ => false
theorem isNat_ex {m : Nat} {v : Vl} (h : isNat m v = true) : ∃ k : Nat, k < m ∧ v = iv k := by
  cases v <;> simp [isNat] at h
  rename_i i
  exact ⟨i.toNat, by omega, by simp only [iv]; congr 1; omega⟩
def badS (m : Nat) (r : Row) : Bool := !isNat m r.s
def badL (l : List (Nat × Nat)) (r : Row) : Bool := match r.ab, r.s with
  | some (.int a), .int b => decide ((a.toNat, b.toNat) ∉ l)
  | _, _ => false
def badO (r : Row) : Bool := match r.ah, r.s with
  | some (.int a), .int b => decide (b ≤ a)
  | _, _ => false
/-- what is wrong with a way's pairs -/
def pairV (m : Nat) (l : List (Nat × Nat)) (rows : List Row) : Vl :=
  match rows.findIdx? (badS m) with
  | some k => .tup [word "station", iv k]
  | none => match rows.findIdx? (badL l) with
    | some k => .tup [word "line", iv k]
    | none => match rows.findIdx? badO with
      | some k => .tup [word "order", iv k]
      | none => .non
def natO (m : Nat) (o : Option Vl) : Prop := ∀ a, o = some a → isNat m a = true
mutual
theorem rows_nat (m : Nat) : ∀ (w : Wt) (ab ah : Option Vl) (d : Nat), (∀ r ∈ rowsW w ab ah d, isNat m r.s = true) → natO m ab → natO m ah → isNat m w.s = true ∧ ∀ r ∈ rowsW w ab ah d, natO m r.ab ∧ natO m r.ah
  | .mk s f, ab, ah, d, h, h1, h2 => by
    have hs : isNat m s = true := h ⟨s, ab, ah, d⟩ (by simp [rowsW])
    refine ⟨hs, fun r hr => ?_⟩
    rcases List.mem_cons.mp hr with rfl | hr
    · exact ⟨h1, h2⟩
    · exact rowsL_nat m f s none (d + 1) (fun x hx => h x (List.mem_cons_of_mem _ hx)) hs (fun a h => by cases h) r hr
theorem rowsL_nat (m : Nat) : ∀ (f : List Wt) (s : Vl) (last : Option Vl) (d : Nat), (∀ r ∈ rowsL f s last d, isNat m r.s = true) → isNat m s = true → natO m last → ∀ r ∈ rowsL f s last d, natO m r.ab ∧ natO m r.ah
  | [], _, _, _, _, _, _ => by simp [rowsL]
  | w :: g, s, last, d, h, h1, h2 => by
    intro r hr
    have q := rows_nat m w (some s) last d (fun x hx => h x (List.mem_append_left _ hx)) (fun a e => by cases e; exact h1) h2
    rcases List.mem_append.mp hr with hr | hr
    · exact q.2 r hr
    · exact rowsL_nat m g s (some w.s) d (fun x hx => h x (List.mem_append_right _ hx)) h1 (fun a e => by cases e; exact q.1) r hr
end
theorem inP_pv (a b : Nat) (l : List (Nat × Nat)) : inP (.tup [.int a, .int b]) (l.map pv) = some (decide ((a, b) ∈ l)) := by
  have h1 : min (depL (l.map pv)) (dep (.tup [.int a, .int b])) ≤ depLine := Nat.le_trans (Nat.min_le_right _ _) (by simp [dep, depL, depLine])
  unfold inP
  rw [if_pos ⟨by simp [pureV, pureL], pure_pv l, h1⟩]
  congr 1
  rw [Bool.eq_iff_iff]
  simp only [List.any_map, List.any_eq_true, Function.comp_def, decide_eq_true_eq, pv, eqV, eqL, Bool.and_true, Bool.and_eq_true]
  constructor
  · rintro ⟨⟨x, y⟩, h, h2, h3⟩
    have : x = a := by omega
    have : y = b := by omega
    subst_vars
    exact h
  · exact fun h => ⟨(a, b), h, rfl, rfl⟩
section
variable (kl : Kls) {T : Tbl} (tI : T "is_integer" = some f_is_integer) (tN : T "is_number_below" = some f_is_number_below)
include tI tN
theorem number_ok (n : Nat) (v : Vl) (m : Nat) (M : Mm) (hp : pureR v = true) : evCall kl T (n + 2) "is_number_below" [v, .int m] M = .ok (.bl (isNat m v)) M := by
  have e1 : ∀ b, leave true M (.ret (.bl b) M) = .ok (.bl b) M := fun b => leave_ret0 (by simp [below])
  have e : evCall kl T (n + 1) "is_integer" [v] M = .ok (.bl (match v with | .int _ => true | _ => false)) M := by
    rw [call_of tI rfl]
    simp only [f_is_integer]
    cases v <;> first | (simp [pureR] at hp; done) | skip
    all_goals
      simp_all_arith! [insTy]
      exact e1 _
  rw [call_of tN rfl]
  simp only [f_is_number_below]
  rw [← e1]
  refine congrArg (leave true M) ?_
  cases v <;> first | (simp [pureR] at hp; done) | skip
  case int i =>
    by_cases h1 : 0 ≤ i
    · by_cases h2 : i < m
      · simp_all_arith! [e, h1, h2]
        simp [isNat, h1, h2]
      · simp_all_arith! [e, h1, h2]
        simp [isNat, h1, h2]
    · simp_all_arith! [e, h1]
      simp [isNat, h1]
  all_goals
    simp_all_arith! [e]
    rfl
end
section
variable (kl : Kls) {T : Tbl} (tW : T "_law_is_whole" = some f__law_is_whole)
include tW
theorem whole_ok (n : Nat) (v : Vl) (m : Nat) (M : Mm) (hp : pureR v = true) : evCall kl T (n + 1) "_law_is_whole" [v, .int 0, .int ((m : Int) - 1)] M = .ok (.bl (isNat m v)) M := by
  have e1 : ∀ b, leave true M (.ret (.bl b) M) = .ok (.bl b) M := fun b => leave_ret0 (by simp [below])
  rw [call_of tW rfl]
  simp only [f__law_is_whole]
  rw [← e1]
  refine congrArg (leave true M) ?_
  cases v <;> first | (simp [pureR] at hp; done) | skip
  case int i =>
    by_cases h1 : 0 ≤ i
    · by_cases h2 : i < m
      · have h3 : i ≤ (m : Int) - 1 := by omega
        simp_all_arith! [insTy, h1, h3]
        simp [isNat, h1, h2]
      · have h3 : ¬ i ≤ (m : Int) - 1 := by omega
        simp_all_arith! [insTy, h1, h3]
        simp [isNat, h1, h2]
    · simp_all_arith! [insTy, h1]
      simp [isNat, h1]
  all_goals
    simp_all_arith! [insTy]
    rfl
end
theorem pure_slip (k : Nat) (s : String) : pureV (.tup [word s, iv k]) = true := by
  have h : PyData.strOk (Str.ofString s) = true := okS_of s
  simp [word, pureV, pureL, h, iv]
theorem pure_word (s : String) : pureV (word s) = true := by
  have h : PyData.strOk (Str.ofString s) = true := okS_of s
  simp [word, pureV, h]
theorem pure_pairV (m : Nat) (l : List (Nat × Nat)) (rows : List Row) : pureV (pairV m l rows) = true := by
  unfold pairV
  split
  · exact pure_slip _ _
  · split
    · exact pure_slip _ _
    · split
      · exact pure_slip _ _
      · rfl
/-- pure in all its parts -/
def RowP (r : Row) : Prop := pureR r.s = true ∧ pureR (r.ab.getD .non) = true ∧ pureR (r.ah.getD .non) = true
/-- stations below m in all its parts -/
def RowN (m : Nat) (r : Row) : Prop := isNat m r.s = true ∧ natO m r.ab ∧ natO m r.ah
theorem RowN.get {m : Nat} {r : Row} (h : RowN m r) : ∃ (s : Nat) (ab ah : Option Nat), r = ⟨iv s, ab.map iv, ah.map iv, r.d⟩ := by
  obtain ⟨s, ab, ah, d⟩ := r
  obtain ⟨h1, h2, h3⟩ := h
  obtain ⟨k, _, e⟩ := isNat_ex h1
  simp only at e
  subst e
  have : ∀ o : Option Vl, natO m o → ∃ q : Option Nat, o = q.map iv := fun o h => by
    cases o with
    | none => exact ⟨none, rfl⟩
    | some a => obtain ⟨j, _, e⟩ := isNat_ex (h a rfl); exact ⟨some j, by rw [e]; rfl⟩
  obtain ⟨q1, e1⟩ := this ab h2
  obtain ⟨q2, e2⟩ := this ah h3
  exact ⟨k, q1, q2, by simp only at e1 e2 ⊢; rw [e1, e2]⟩
section
variable (kl : Kls) {T : Tbl} (tI : T "is_integer" = some f_is_integer) (tN : T "is_number_below" = some f_is_number_below) (tP : T "pair_error" = some f_pair_error)
include tI tN tP
theorem pair_error_ok (n : Nat) (M : Mm) (t : List Nat) (l : List (Nat × Nat)) (rows : List Row) (hp : ∀ r ∈ rows, RowP r) (hn : (∀ r ∈ rows, isNat t.length r.s = true) → ∀ r ∈ rows, natO t.length r.ab ∧ natO t.length r.ah) :
    evCall kl T (n + 3) "pair_error" [netV t l, .lst (rows.map prow)] M = .ok (pairV t.length l rows) M := by
  let σ := fun (o2 o3 : Option Vl) => [some (netV t l), some (.lst (rows.map prow)), o2, o3]
  let J := fun (s : Sl) => ∃ o2 o3, s = σ o2 o3
  have fin : leave true M (.ret (pairV t.length l rows) M) = .ok (pairV t.length l rows) M := leave_ret0 (below_pure _ (pure_pairV _ _ _))
  rw [call_of tP rfl, ← fin]
  refine congrArg (leave true M) ?_
  simp only [f_pair_error]
  have hs : ∀ o2 o3 : Option Vl, J (σ o2 o3) := fun o2 o3 => ⟨o2, o3, rfl⟩
  have e3 : ∀ o2 o3, evS kl (evCall kl T (n + 2)) f_pair_error_l3 (σ o2 o3) M = forL (fun x σ M => bindT (.tp [2, 3]) x σ M) (fun σ M => evSs kl (evCall kl T (n + 2)) f_pair_error_b3 σ M) [] (enumV (rows.map prow)) (σ o2 o3) M := fun o2 o3 => by
    simp only [f_pair_error_l3, σ]
    simp_all_arith! []
  have e2 : ∀ o2 o3, evS kl (evCall kl T (n + 2)) f_pair_error_l2 (σ o2 o3) M = forL (fun x σ M => bindT (.tp [2, 3]) x σ M) (fun σ M => evSs kl (evCall kl T (n + 2)) f_pair_error_b2 σ M) [] (enumV (rows.map prow)) (σ o2 o3) M := fun o2 o3 => by
    simp only [f_pair_error_l2, σ]
    simp_all_arith! []
  have e1 : ∀ o2 o3, evS kl (evCall kl T (n + 2)) f_pair_error_l1 (σ o2 o3) M = forL (fun x σ M => bindT (.tp [2, 3]) x σ M) (fun σ M => evSs kl (evCall kl T (n + 2)) f_pair_error_b1 σ M) [] (enumV (rows.map prow)) (σ o2 o3) M := fun o2 o3 => by
    simp only [f_pair_error_l1, σ]
    simp_all_arith! []
  have s3 := find_loop (enc := prow) (p := badS t.length) (wd := word "station") (M := M) (bd := fun x σ M => bindT (.tp [2, 3]) x σ M) (body := fun σ M => evSs kl (evCall kl T (n + 2)) f_pair_error_b3 σ M) J rows (hs none none) (by
    rintro k hk _ ⟨o2, o3, rfl⟩
    have q := hp rows[k] (List.getElem_mem hk)
    refine ⟨σ (some (.int k)) (some (prow rows[k])), rfl, ?_⟩
    have e := number_ok kl tI tN n rows[k].s t.length M q.1
    generalize rows[k] = r at *
    cases h : isNat t.length r.s with
    | true =>
      rw [h] at e
      refine .inr ⟨by simp [badS, h], _, hs (some (.int k)) (some (prow r)), ?_⟩
      simp only [f_pair_error_b3, σ, prow]
      simp_all_arith! [e]
    | false =>
      rw [h] at e
      refine .inl ⟨by simp [badS, h], ?_⟩
      simp only [f_pair_error_b3, σ, prow]
      simp_all_arith! [e]
      rfl)
  rw [← e3] at s3
  rcases s3 with ⟨k, f3, r3⟩ | ⟨all3, f3, _, ⟨o2, o3, rfl⟩, r3⟩
  · have : pairV t.length l rows = .tup [word "station", iv k] := by unfold pairV; rw [f3]
    rw [this]
    simp only [σ] at r3
    simp_all_arith! [r3]
  have hS : ∀ r ∈ rows, isNat t.length r.s = true := fun r hr => by
    have := all3 r hr
    simpa [badS] using this
  have hN : ∀ r ∈ rows, RowN t.length r := fun r hr => ⟨hS r hr, hn hS r hr⟩
  have s2 := find_loop (enc := prow) (p := badL l) (wd := word "line") (M := M) (bd := fun x σ M => bindT (.tp [2, 3]) x σ M) (body := fun σ M => evSs kl (evCall kl T (n + 2)) f_pair_error_b2 σ M) J rows (hs o2 o3) (by
    rintro k hk _ ⟨o2, o3, rfl⟩
    obtain ⟨s, ab, ah, er⟩ := (hN rows[k] (List.getElem_mem hk)).get
    refine ⟨σ (some (.int k)) (some (prow rows[k])), rfl, ?_⟩
    generalize rows[k] = r at *
    rw [er]
    cases ab with
    | none =>
      refine .inr ⟨rfl, _, hs (some (.int k)) (some (prow ⟨iv s, none, ah.map iv, r.d⟩)), ?_⟩
      simp only [f_pair_error_b2, σ, prow, Option.map_none, Option.getD_none]
      simp_all_arith! []
    | some a =>
      have q := inP_pv a s l
      by_cases h : (a, s) ∈ l
      · refine .inr ⟨by simp [badL, iv, h], _, hs (some (.int k)) (some (prow ⟨iv s, some (iv a), ah.map iv, r.d⟩)), ?_⟩
        simp only [f_pair_error_b2, σ, prow, Option.map_some, Option.getD_some, iv]
        simp_all_arith! [q, h]
      · refine .inl ⟨by simp [badL, iv, h], ?_⟩
        simp only [f_pair_error_b2, σ, prow, Option.map_some, Option.getD_some, iv]
        simp_all_arith! [q, h]
        rfl)
  rw [← e2] at s2
  rcases s2 with ⟨k, f2, r2⟩ | ⟨all2, f2, _, ⟨p2, p3, rfl⟩, r2⟩
  · have : pairV t.length l rows = .tup [word "line", iv k] := by unfold pairV; rw [f3, f2]
    rw [this]
    simp only [σ] at r3 r2
    simp_all_arith! [r3, r2]
  have s1 := find_loop (enc := prow) (p := badO) (wd := word "order") (M := M) (bd := fun x σ M => bindT (.tp [2, 3]) x σ M) (body := fun σ M => evSs kl (evCall kl T (n + 2)) f_pair_error_b1 σ M) J rows (hs p2 p3) (by
    rintro k hk _ ⟨o2, o3, rfl⟩
    obtain ⟨s, ab, ah, er⟩ := (hN rows[k] (List.getElem_mem hk)).get
    refine ⟨σ (some (.int k)) (some (prow rows[k])), rfl, ?_⟩
    generalize rows[k] = r at *
    rw [er]
    cases ah with
    | none =>
      refine .inr ⟨rfl, _, hs (some (.int k)) (some (prow ⟨iv s, ab.map iv, none, r.d⟩)), ?_⟩
      simp only [f_pair_error_b1, σ, prow, Option.map_none, Option.getD_none]
      simp_all_arith! []
    | some a =>
      by_cases h : s ≤ a
      · refine .inl ⟨by simp [badO, iv, h], ?_⟩
        simp only [f_pair_error_b1, σ, prow, Option.map_some, Option.getD_some, iv]
        simp_all_arith! [h]
        rfl
      · refine .inr ⟨by simp [badO, iv, h], _, hs (some (.int k)) (some (prow ⟨iv s, ab.map iv, some (iv a), r.d⟩)), ?_⟩
        simp only [f_pair_error_b1, σ, prow, Option.map_some, Option.getD_some, iv]
        simp_all_arith! [h])
  rw [← e1] at s1
  rcases s1 with ⟨k, f1, r1⟩ | ⟨all1, f1, _, ⟨u2, u3, rfl⟩, r1⟩
  · have : pairV t.length l rows = .tup [word "order", iv k] := by unfold pairV; rw [f3, f2, f1]
    rw [this]
    simp only [σ] at r3 r2 r1
    simp_all_arith! [r3, r2, r1]
  · have : pairV t.length l rows = .non := by unfold pairV; rw [f3, f2, f1]
    rw [this]
    simp only [σ] at r3 r2 r1
    simp_all_arith! [r3, r2, r1]
end
section
variable (kl : Kls) {T : Tbl} (tW : T "_law_is_whole" = some f__law_is_whole) (tB : T "_law_is_built" = some f__law_is_built) (tQ : T "_law_pairs" = some f__law_pairs) (tS : T "_law_way_slip" = some f__law_way_slip)
/-- what is wrong with what is built like a way -/
def slipW (m : Nat) (l : List (Nat × Nat)) (w : Wt) : Vl :=
  if 40 < (rowsW w none none 0).length then word "pairs" else if 12 < lonW w then word "steps" else pairV m l (rowsW w none none 0)
theorem pure_slipW (m : Nat) (l : List (Nat × Nat)) (w : Wt) : pureV (slipW m l w) = true := by
  unfold slipW
  split
  · exact pure_word _
  · split
    · exact pure_word _
    · exact pure_pairV _ _ _
theorem rowsW_P {w : Wt} (h : pureR (we w) = true) : ∀ r ∈ rowsW w none none 0, RowP r := fun r hr => rows_pure h rfl rfl r hr
theorem rowsW_N {m : Nat} (w : Wt) : (∀ r ∈ rowsW w none none 0, isNat m r.s = true) → ∀ r ∈ rowsW w none none 0, natO m r.ab ∧ natO m r.ah :=
  fun h => (rows_nat m w none none 0 h (fun a e => by cases e) (fun a e => by cases e)).2
include tW tB tQ tS
theorem way_slip_ok (n : Nat) (M : Mm) (t : List Nat) (l : List (Nat × Nat)) (w : Wt) (hb : blt (we w) = true) (hp : pureR (we w) = true) (hd : dep (we w) ≤ n) (hl : (rowsW w none none 0).length ≤ 16777216) :
    evCall kl T (n + 2) "_law_way_slip" [netV t l, we w] M = .ok (slipW t.length l w) M := by
  have sl : PySem.sizeLine = 16777216 := by decide
  have fin : leave true M (.ret (slipW t.length l w) M) = .ok (slipW t.length l w) M := leave_ret0 (below_pure _ (pure_slipW _ _ _))
  rw [call_of tS rfl, ← fin]
  refine congrArg (leave true M) ?_
  have eB := lbuilt_ok kl tB n (we w) M hp hd
  rw [hb] at eB
  have eP := pairs_ok kl tQ n w hd M none none 0 hp rfl rfl hl
  simp only [o1] at eP
  have nD := maxI_deep w none none
  have hP := rowsW_P hp
  have hn := rowsW_N (m := t.length) w
  have eW := fun (r : Row) (h : RowP r) (M : Mm) => whole_ok kl tW n r.s t.length M h.1
  have vw := varV_we w
  have ne : rowsW w none none 0 ≠ [] := by obtain ⟨s, f⟩ := w; simp [rowsW]
  simp only [f__law_way_slip]
  unfold slipW
  generalize rowsW w none none 0 = rows at *
  by_cases h40 : 40 < rows.length
  · rw [if_pos h40]
    have h40' : ((40 : Int) < rows.length) = True := eq_true (by omega)
    have e0 : ((0 : Nat) : Int) = 0 := rfl
    rw [e0] at eP
    simp_all_arith! [vw, eB, eP, h40']
    rfl
  · rw [if_neg h40]
    have h40' : ((40 : Int) < rows.length) = False := eq_false (by omega)
    have e0 : ((0 : Nat) : Int) = 0 := rfl
    rw [e0] at eP
    have c1 : ∀ o3 o4, evE kl (evCall kl T (n + 1)) f__law_way_slip_c1 [some (netV t l), some (we w), some (.lst (rows.map lrow)), o3, o4] M = .ok (.lst ((rows.map fun r => (r.d : Int)).map .int)) M := by
      intro o3 o4
      simp only [f__law_way_slip_c1]
      simp_all_arith! [vw]
      rw [compI_map0 lrow (fun _ => true) (fun r => .int r.d) rows ?_ (by omega)]
      · have ft : rows.filter (fun _ => true) = rows := by simp
        rw [ft, List.map_map]
        rfl
      · intro r hr
        refine ⟨_, rfl, rfl, fun _ => ?_⟩
        simp_arith [lrow]
    have im := intsOf_map (rows.map fun r => (r.d : Int))
    have mx : ∀ M, biV .max1 [.lst ((rows.map fun r => (r.d : Int)).map .int)] M = .ok (.int (lonW w)) M := fun M => by
      simp only [biV, seqLst_lst, Option.bind_some, im]
      rw [if_neg (by simpa using ne), nD]
      rfl
    by_cases h12 : 12 < lonW w
    · rw [if_pos h12]
      have h12' : ((12 : Int) < lonW w) = True := eq_true (by omega)
      simp_all_arith! [vw, eB, eP, h40', c1, ↓mx, h12']
      rfl
    · rw [if_neg h12]
      have h12' : ((12 : Int) < lonW w) = False := eq_false (by omega)
      let σ := fun (o3 o4 : Option Vl) => [some (netV t l), some (we w), some (.lst (rows.map lrow)), o3, o4]
      let J := fun (s : Sl) => ∃ o3 o4, s = σ o3 o4
      have hs : ∀ o3 o4 : Option Vl, J (σ o3 o4) := fun o3 o4 => ⟨o3, o4, rfl⟩
      have e3 : ∀ o3 o4, evS kl (evCall kl T (n + 1)) f__law_way_slip_l3 (σ o3 o4) M = forL (fun x σ M => bindT (.tp [4, 3]) x σ M) (fun σ M => evSs kl (evCall kl T (n + 1)) f__law_way_slip_b3 σ M) [] (enumV (rows.map lrow)) (σ o3 o4) M := fun o3 o4 => by
        simp only [f__law_way_slip_l3, σ]
        simp_all_arith! []
      have e2 : ∀ o3 o4, evS kl (evCall kl T (n + 1)) f__law_way_slip_l2 (σ o3 o4) M = forL (fun x σ M => bindT (.tp [4, 3]) x σ M) (fun σ M => evSs kl (evCall kl T (n + 1)) f__law_way_slip_b2 σ M) [] (enumV (rows.map lrow)) (σ o3 o4) M := fun o3 o4 => by
        simp only [f__law_way_slip_l2, σ]
        simp_all_arith! []
      have e1 : ∀ o3 o4, evS kl (evCall kl T (n + 1)) f__law_way_slip_l1 (σ o3 o4) M = forL (fun x σ M => bindT (.tp [4, 3]) x σ M) (fun σ M => evSs kl (evCall kl T (n + 1)) f__law_way_slip_b1 σ M) [] (enumV (rows.map lrow)) (σ o3 o4) M := fun o3 o4 => by
        simp only [f__law_way_slip_l1, σ]
        simp_all_arith! []
      have pre : ∀ r, r = evSs kl (evCall kl T (n + 1)) (.cons f__law_way_slip_l3 (.cons f__law_way_slip_l2 (.cons f__law_way_slip_l1 (.cons (.ret (.cst .non)) .nil)))) (σ none none) M → evSs kl (evCall kl T (n + 1)) f__law_way_slip.body [some (netV t l), some (we w), none, none, none] M = r := by
        rintro _ rfl
        simp only [f__law_way_slip, σ]
        simp_all_arith! [vw, eB, eP, h40', c1, ↓mx, h12']
      refine pre _ ?_
      symm
      have s3 := find_loop (enc := lrow) (p := badS t.length) (wd := word "station") (M := M) (bd := fun x σ M => bindT (.tp [4, 3]) x σ M) (body := fun σ M => evSs kl (evCall kl T (n + 1)) f__law_way_slip_b3 σ M) J rows (hs none none) (by
        rintro k hk _ ⟨o3, o4, rfl⟩
        have q := hP rows[k] (List.getElem_mem hk)
        refine ⟨σ (some (lrow rows[k])) (some (.int k)), rfl, ?_⟩
        have e := eW rows[k] q M
        generalize rows[k] = r at *
        cases h : isNat t.length r.s with
        | true =>
          rw [h] at e
          refine .inr ⟨by simp [badS, h], _, hs (some (lrow r)) (some (.int k)), ?_⟩
          simp only [f__law_way_slip_b3, σ, lrow]
          simp_all_arith! [e]
        | false =>
          rw [h] at e
          refine .inl ⟨by simp [badS, h], ?_⟩
          simp only [f__law_way_slip_b3, σ, lrow]
          simp_all_arith! [e]
          rfl)
      rw [← e3] at s3
      rcases s3 with ⟨k, f3, r3⟩ | ⟨all3, f3, _, ⟨o3, o4, rfl⟩, r3⟩
      · have : pairV t.length l rows = .tup [word "station", iv k] := by unfold pairV; rw [f3]
        rw [this]
        simp only [σ] at r3 ⊢
        simp_all_arith! [r3]
      have hS : ∀ r ∈ rows, isNat t.length r.s = true := fun r hr => by
        have := all3 r hr
        simpa [badS] using this
      have hN : ∀ r ∈ rows, RowN t.length r := fun r hr => ⟨hS r hr, hn hS r hr⟩
      have s2 := find_loop (enc := lrow) (p := badL l) (wd := word "line") (M := M) (bd := fun x σ M => bindT (.tp [4, 3]) x σ M) (body := fun σ M => evSs kl (evCall kl T (n + 1)) f__law_way_slip_b2 σ M) J rows (hs o3 o4) (by
        rintro k hk _ ⟨o3, o4, rfl⟩
        obtain ⟨s, ab, ah, er⟩ := (hN rows[k] (List.getElem_mem hk)).get
        refine ⟨σ (some (lrow rows[k])) (some (.int k)), rfl, ?_⟩
        generalize rows[k] = r at *
        rw [er]
        cases ab with
        | none =>
          refine .inr ⟨rfl, _, hs (some (lrow ⟨iv s, none, ah.map iv, r.d⟩)) (some (.int k)), ?_⟩
          simp only [f__law_way_slip_b2, σ, lrow, o1, Option.map_none]
          simp_all_arith! []
        | some a =>
          have q := inP_pv a s l
          have q2 : eqP (.tup [.int a]) (.tup []) = some false := eqP_tnil (l := [.int a]) rfl
          by_cases h : (a, s) ∈ l
          · refine .inr ⟨by simp [badL, iv, h], _, hs (some (lrow ⟨iv s, some (iv a), ah.map iv, r.d⟩)) (some (.int k)), ?_⟩
            simp only [f__law_way_slip_b2, σ, lrow, o1, Option.map_some, iv]
            simp_all_arith! [q, q2, h]
          · refine .inl ⟨by simp [badL, iv, h], ?_⟩
            simp only [f__law_way_slip_b2, σ, lrow, o1, Option.map_some, iv]
            simp_all_arith! [q, q2, h]
            rfl)
      rw [← e2] at s2
      rcases s2 with ⟨k, f2, r2⟩ | ⟨all2, f2, _, ⟨p3, p4, rfl⟩, r2⟩
      · have : pairV t.length l rows = .tup [word "line", iv k] := by unfold pairV; rw [f3, f2]
        rw [this]
        simp only [σ] at r3 r2 ⊢
        simp_all_arith! [r3, r2]
      have s1 := find_loop (enc := lrow) (p := badO) (wd := word "order") (M := M) (bd := fun x σ M => bindT (.tp [4, 3]) x σ M) (body := fun σ M => evSs kl (evCall kl T (n + 1)) f__law_way_slip_b1 σ M) J rows (hs p3 p4) (by
        rintro k hk _ ⟨o3, o4, rfl⟩
        obtain ⟨s, ab, ah, er⟩ := (hN rows[k] (List.getElem_mem hk)).get
        refine ⟨σ (some (lrow rows[k])) (some (.int k)), rfl, ?_⟩
        generalize rows[k] = r at *
        rw [er]
        cases ah with
        | none =>
          refine .inr ⟨rfl, _, hs (some (lrow ⟨iv s, ab.map iv, none, r.d⟩)) (some (.int k)), ?_⟩
          simp only [f__law_way_slip_b1, σ, lrow, o1, Option.map_none]
          simp_all_arith! []
        | some a =>
          have q2 : eqP (.tup [.int a]) (.tup []) = some false := eqP_tnil (l := [.int a]) rfl
          by_cases h : s ≤ a
          · refine .inl ⟨by simp [badO, iv, h], ?_⟩
            simp only [f__law_way_slip_b1, σ, lrow, o1, Option.map_some, iv]
            simp_all_arith! [h, q2]
            rfl
          · refine .inr ⟨by simp [badO, iv, h], _, hs (some (lrow ⟨iv s, ab.map iv, some (iv a), r.d⟩)) (some (.int k)), ?_⟩
            simp only [f__law_way_slip_b1, σ, lrow, o1, Option.map_some, iv]
            simp_all_arith! [h, q2])
      rw [← e1] at s1
      rcases s1 with ⟨k, f1, r1⟩ | ⟨all1, f1, _, ⟨u3, u4, rfl⟩, r1⟩
      · have : pairV t.length l rows = .tup [word "order", iv k] := by unfold pairV; rw [f3, f2, f1]
        rw [this]
        simp only [σ] at r3 r2 r1 ⊢
        simp_all_arith! [r3, r2, r1]
      · have : pairV t.length l rows = .non := by unfold pairV; rw [f3, f2, f1]
        rw [this]
        simp only [σ] at r3 r2 r1 ⊢
        simp_all_arith! [r3, r2, r1]
end
section
variable (kl : Kls) {T : Tbl} (tI : T "is_integer" = some f_is_integer) (tN : T "is_number_below" = some f_is_number_below) (tP : T "pair_error" = some f_pair_error)
  (tB : T "is_built" = some f_is_built) (tA : T "add_rows" = some f_add_rows) (tR : T "rows_of" = some f_rows_of) (tL : T "longest" = some f_longest) (tE : T "way_error" = some f_way_error)
include tI tN tP tB tA tR tL tE
theorem way_error_we (n : Nat) (M : Mm) (t : List Nat) (l : List (Nat × Nat)) (w : Wt) (hb : blt (we w) = true) (hp : pureR (we w) = true) (hd : dep (we w) ≤ n) (hl : (rowsW w none none 0).length ≤ 16777216) :
    evCall kl T (n + 4) "way_error" [netV t l, we w] M = .ok (slipW t.length l w) M := by
  have sl : PySem.sizeLine = 16777216 := by decide
  have fin : leave true M (.ret (slipW t.length l w) M) = .ok (slipW t.length l w) M := leave_ret0 (below_pure _ (pure_slipW _ _ _))
  rw [call_of tE rfl, ← fin]
  refine congrArg (leave true M) ?_
  have eB := built_ok kl tB (n + 2) (we w) M hp (by omega)
  rw [hb] at eB
  have eR := rows_of_ok kl tA tR (n + 1) w M (by omega) hp hl
  have eL := longest_ok kl tL (n + 2) w M (by omega) hb
  have eP := pair_error_ok kl tI tN tP n M t l (rowsW w none none 0) (rowsW_P hp) (rowsW_N w)
  have vw := varV_we w
  simp only [f_way_error]
  unfold slipW
  generalize rowsW w none none 0 = rows at *
  by_cases h40 : 40 < rows.length
  · rw [if_pos h40]
    have h40' : ((40 : Int) < rows.length) = True := eq_true (by omega)
    simp_all_arith! [vw, eB, eR, h40']
    rfl
  · rw [if_neg h40]
    have h40' : ((40 : Int) < rows.length) = False := eq_false (by omega)
    by_cases h12 : 12 < lonW w
    · rw [if_pos h12]
      have h12' : ((12 : Int) < lonW w) = True := eq_true (by omega)
      simp_all_arith! [vw, eB, eR, h40', eL, h12']
      rfl
    · rw [if_neg h12]
      have h12' : ((12 : Int) < lonW w) = False := eq_false (by omega)
      simp_all_arith! [vw, eB, eR, h40', eL, h12', eP]
omit tI tN tP tA tR tL in
theorem way_error_no (n : Nat) (M : Mm) (t : List Nat) (l : List (Nat × Nat)) (v : Vl) (hb : blt v = false) (hp : pureR v = true) (hd : dep v ≤ n) :
    evCall kl T (n + 2) "way_error" [netV t l, v] M = .ok (word "form") M := by
  have eB := built_ok kl tB n v M hp hd
  rw [hb] at eB
  rw [call_of tE rfl]
  simp only [f_way_error]
  simp_all_arith! [varV_R hp, eB]
  exact leave_ret0 (below_pure _ (pure_word _))
end
section
variable (kl : Kls) {T : Tbl} (tB : T "_law_is_built" = some f__law_is_built) (tS : T "_law_way_slip" = some f__law_way_slip)
include tB tS
theorem way_slip_no (n : Nat) (M : Mm) (t : List Nat) (l : List (Nat × Nat)) (v : Vl) (hb : blt v = false) (hp : pureR v = true) (hd : dep v ≤ n) :
    evCall kl T (n + 2) "_law_way_slip" [netV t l, v] M = .ok (word "form") M := by
  have eB := lbuilt_ok kl tB n v M hp hd
  rw [hb] at eB
  rw [call_of tS rfl]
  simp only [f__law_way_slip]
  simp_all_arith! [varV_R hp, eB]
  exact leave_ret0 (below_pure _ (pure_word _))
end
/-! ### nothing wrong: a way -/
theorem WayOk.more {m : Nat} {l : List (Nat × Nat)} {w : Way} : ∀ (k : Nat) {d : Nat}, WayOk m l d w → WayOk m l (d + k) w
  | 0, _, h => h
  | k + 1, _, h => (WayOk.more k h).up
mutual
theorem way_of (m : Nat) (l : List (Nat × Nat)) : ∀ (w : Wt) (ab ah : Option Vl) (d : Nat), (∀ r ∈ rowsW w ab ah d, RowN m r ∧ badL l r = false ∧ badO r = false) → blt (we w) = true →
    ∃ u : Way, we w = wv u ∧ w.s = iv u.s ∧ WayOk m l (lonW w) u
  | .mk s f, ab, ah, d, h, hb => by
    obtain ⟨h3, bk⟩ := blt_kid hb
    obtain ⟨k, hk, e⟩ := isNat_ex (h ⟨s, ab, ah, d⟩ (by simp [rowsW])).1.1
    simp only at e
    subst e
    obtain ⟨us, e1, h1, h2, _⟩ := ways_of m l f k none (d + 1) (fun r hr => h r (List.mem_cons_of_mem _ hr)) bk
    refine ⟨.mk k us, by rw [we_mk, wv_mk, e1], rfl, ?_⟩
    have len : us.length = f.length := by have := congrArg List.length e1; simpa using this.symm
    cases q : lonW (.mk (iv k) f) with
    | zero =>
      refine ⟨hk, ?_⟩
      cases us with
      | nil => rfl
      | cons u r =>
        obtain ⟨_, e, he, _⟩ := h1 u (by simp)
        simp only [lonW] at q
        omega
    | succ e =>
      simp only [lonW] at q
      refine ⟨hk, by simp only [Way.f]; omega, h2, fun c hc => ?_⟩
      obtain ⟨a, e', he, hw⟩ := h1 c hc
      refine ⟨a, ?_⟩
      obtain ⟨j, rfl⟩ : ∃ j, e = e' + j := ⟨e - e', by omega⟩
      exact hw.more j
theorem ways_of (m : Nat) (l : List (Nat × Nat)) : ∀ (f : List Wt) (s : Nat) (last : Option Nat) (d : Nat), (∀ r ∈ rowsL f (iv s) (last.map iv) d, RowN m r ∧ badL l r = false ∧ badO r = false) → (∀ w ∈ f, blt (we w) = true) →
    ∃ us : List Way, f.map we = us.map wv ∧ (∀ u ∈ us, (s, u.s) ∈ l ∧ ∃ e, e + 1 ≤ lonL f ∧ WayOk m l e u) ∧ (us.map Way.s).Pairwise (· < ·) ∧ ∀ b, last = some b → ∀ u ∈ us, b < u.s
  | [], _, _, _, _, _ => ⟨[], rfl, by simp, by simp, by simp⟩
  | w :: g, s, last, d, h, hb => by
    obtain ⟨u, e1, e2, h1⟩ := way_of m l w (some (iv s)) (last.map iv) d (fun r hr => h r (List.mem_append_left _ hr)) (hb w (by simp))
    have hd : (⟨w.s, some (iv s), last.map iv, d⟩ : Row) ∈ rowsW w (some (iv s)) (last.map iv) d := by obtain ⟨s', f'⟩ := w; simp [rowsW, Wt.s]
    have hr := h _ (List.mem_append_left _ hd)
    rw [e2] at hr
    have hl : (s, u.s) ∈ l := by
      have := hr.2.1
      simpa [badL, iv] using this
    obtain ⟨us, f1, f2, f3, f4⟩ := ways_of m l g s (some u.s) d (fun r hr => h r (by
      simp only [rowsL, List.mem_append]
      refine .inr ?_
      rw [e2]
      exact hr)) (fun x hx => hb x (by simp [hx]))
    have ho : ∀ b, last = some b → b < u.s := fun b e => by
      subst e
      have := hr.2.2
      simp only [badO, iv, Option.map_some, decide_eq_false_iff_not] at this
      omega
    refine ⟨u :: us, by simp [e1, f1], ?_, ?_, ?_⟩
    · intro x hx
      rcases List.mem_cons.mp hx with rfl | hx
      · exact ⟨hl, lonW w, by simp only [lonL]; omega, h1⟩
      · obtain ⟨a, e, he, hw⟩ := f2 x hx
        exact ⟨a, e, by simp only [lonL]; omega, hw⟩
    · rw [List.map_cons, List.pairwise_cons]
      refine ⟨fun y hy => ?_, f3⟩
      obtain ⟨x, hx, rfl⟩ := List.mem_map.mp hy
      exact f4 _ rfl x hx
    · intro b e x hx
      rcases List.mem_cons.mp hx with rfl | hx
      · exact ho b e
      · exact Nat.lt_trans (ho b e) (f4 _ rfl x hx)
end
theorem slipW_non {m : Nat} {l : List (Nat × Nat)} {w : Wt} (hb : blt (we w) = true) (h : slipW m l w = .non) : ∃ u : Way, we w = wv u ∧ WayOk m l 12 u := by
  unfold slipW at h
  split at h
  · cases h
  · split at h
    · cases h
    · rename_i h1 h2
      unfold pairV at h
      split at h
      · cases h
      · rename_i f3
        split at h
        · cases h
        · rename_i f2
          split at h
          · cases h
          · rename_i f1
            have hS : ∀ r ∈ rowsW w none none 0, isNat m r.s = true := fun r hr => by
              have := List.findIdx?_eq_none_iff.mp f3 r hr
              simpa [badS] using this
            obtain ⟨u, e, _, q⟩ := way_of m l w none none 0 (fun r hr => ⟨⟨hS r hr, rowsW_N w hS r hr⟩, List.findIdx?_eq_none_iff.mp f2 r hr, List.findIdx?_eq_none_iff.mp f1 r hr⟩) hb
            refine ⟨u, e, ?_⟩
            obtain ⟨j, hj⟩ : ∃ j, 12 = lonW w + j := ⟨12 - lonW w, by omega⟩
            rw [hj]
            exact q.more j
/-- what is wrong with a value as a way -/
def slipIs (m : Nat) (l : List (Nat × Nat)) (v x : Vl) : Prop :=
  pureV x = true ∧ (x = .non ∨ ∃ s, x = word s ∨ ∃ k, x = .tup [word s, iv k]) ∧ (x = .non → ∃ u : Way, v = wv u ∧ WayOk m l 12 u)
end Sx
end

section
set_option Elab.async false
set_option linter.all false
set_option maxRecDepth 100000
/-! Sg, part 39: the lot that a station brings. -/
namespace Sx
open Sg
open PySem (Str PyData)
local macro_rules
| `(tactic| simp_arith [$ls,*]) => `(tactic| simp (config := { decide := false, implicitDefEqProofs := false }) only [↓e_var, ↓e_cst, ↓e_glb, ↓e_tup,
    ↓e_lst, ↓e_dct, ↓e_dic, ↓e_bin, ↓e_neg, ↓e_not, ↓e_and, ↓e_or, ↓e_cmp, ↓e_cmp2, ↓e_ite, ↓e_idx, ↓e_sl, ↓e_rev, ↓e_comp, ↓e_call, ↓e_callk, ↓e_bi,
    ↓e_src, ↓e_meth, ↓e_xfld, ↓e_xisi, ↓es_nil, ↓es_cons, ↓cs_nil, ↓cs_one, ↓oe_no, ↓oe_so, ↓sr_val, ↓sr_enum, ↓sr_zip, ↓sr_rng1, ↓sr_rng2, ↓s_expr,
    ↓s_set, ↓s_setT, ↓s_par, ↓s_setI, ↓s_augI, ↓s_augN, ↓s_ret, ↓s_retN, ↓s_ife, ↓s_for, ↓s_raise, ↓s_try, ↓s_pass, ↓s_brk, ↓s_cnt, ↓ss_nil, ↓ss_cons,
    ↓hs_nil, ↓hs_cons, ↓hs_none, evKs, bindI_ok, bindI_exc, bindI_bad, thnI_ok, thnI_exc, thnI_bad, sthnI_nx, sthnI_brk, sthnI_cnt, sthnI_ret,
    sthnI_exc, sthnI_bad, R.of_some, R.of_none, R.bind_ok, R.thn_ok, RS.thn_nx, List.getElem?_cons_zero, List.getElem?_cons_succ, List.set_cons_zero,
    List.set_cons_succ, Option.bind_some, Option.bind_none, Option.map_some, Option.map_none, id, varV_non, varV_bl, varV_int, varV_str, varV_tup,
    varV_lst, varV_ref, varV_scr, varV_dic, rd_dic, rd_non, rd_bl, rd_int, rd_str, rd_tup, rd_lst, rd_scr, seq_tup, seq_lst, seqLst_lst, tru_bl,
    tru_non, mkL_f, mkL_c, startS_def, List.map_cons, List.map_nil, List.cons_append, List.nil_append, List.replicate_succ, List.replicate_zero,
    Nat.sub_self, Nat.reduceSub, Nat.reduceAdd, bin2, addV, cmpV, eqR_P, eqP_int, inR_P, pureL_ints, pureL_nats, pureL_nil, pureL_cons, Bool.and_true,
    Bool.true_and, List.isEmpty_cons, List.isEmpty_nil, Bool.not_false, Bool.not_true, inP_ints, inP_nats, eqP_lnil, eqP_tnil, intsOf_map, rd_b1,
    rd_b2, pureV, setIV, augGet, methV, methL, setL, bindT, wipeS, List.foldr_cons, List.foldr_nil, setAll, intOf, slV, cutL_take, cutL_drop,
    cutL_drop1, cutL_take1, ordV, isNon, biV, keyOf_str, keyOf_int, lookK_cons, lookK_nil, idxV, rd_r, cellL, lt_line, getD_z, getD_s, Int.ofNat_inj,
    cast0, cast1, cast0', List.dropLast_concat, last_app, last_app', last_map, Nat.add_sub_cancel, Nat.zero_add, List.map_append, Int.ofNat_lt,
    Int.ofNat_le, Nat.reduceLT, List.zip_cons_cons, List.zip_nil_left, List.zip_nil_right, List.foldl_cons, List.foldl_nil, List.any_cons,
    List.any_nil, decide_true, decide_false, Bool.or_true, Bool.true_or, Bool.or_false, Bool.false_or, Bool.false_eq_true, place_zero, place_1,
    place_2, place_3, place_4, List.length_cons, List.length_map, List.length_append, List.length_nil, Option.some.injEq, Sum.inr.injEq, Sum.inl.injEq,
    Int.reduceLT, Int.reduceLE, true_and, and_true, and_self, List.isEmpty_map, reduceIte, reduceCtorEq, if_true, if_false, $ls,*])
local macro_rules
  | `(tactic| simp_all_arith [$ls,*]) => `(tactic| simp_arith [bgm_len, bgm_app, bgm_get0, bgm_get1, bgm_get2, bgm_set0, bgm_set1, bgm_set2, List.append_assoc, Nat.add_assoc, $ls,*])
local macro_rules
  | `(tactic| simp_arith! [$ls,*]) => `(tactic| simp_arith [varV_net, rd_net, get_app, get_app0, set_app, set_app0, List.append_assoc, Nat.add_assoc, $ls,*])
local macro_rules
  | `(tactic| simp_all_arith! [$ls,*]) => `(tactic| simp_arith! [varV_wv, rd_wv, varV_st, rd_st, bgm_len, bgm_app, bgm_get0, bgm_get1, bgm_get2, bgm_set0, bgm_set1, bgm_set2, $ls,*])
def f_closed_from_b1 : Ss := (.cons (.ife (.cmp .nin (.var 4) (.var 2)) (.cons (.expr (.meth .append (.var 2) (.cons (.var 4) .nil))) .nil) .nil) .nil)
def f_closed_from_l1 : S := (.for_ (.nm 4) (.val (.idx (.var 0) (.idx (.var 2) (.var 3)))) f_closed_from_b1)
def f_closed_from_b2 : Ss := (.cons (.ife (.cmp .isn (.idx (.var 0) (.idx (.var 2) (.var 3))) (.cst .non)) (.cons (.ret (.tup .nil)) .nil) .nil) (.cons f_closed_from_l1 (.cons (.augN 3 (.cst (.int 1))) .nil)))
def f_closed_from_l2 : S := (.while_ (.cmp .lt (.var 3) (.bi .len (.cons (.var 2) .nil))) f_closed_from_b2)
def f_closed_from : Fn := { np := 2, nl := 5, fz := true, body := (.cons (.set 2 (.lst false (.cons (.var 1) .nil))) (.cons (.set 3 (.cst (.int 0))) (.cons f_closed_from_l2 (.cons (.ret (.bi .tuple (.cons (.bi (.sorted true) (.cons (.var 2) .nil)) .nil))) .nil)))) }
def f_closure : Fn := { np := 3, nl := 3, fz := true, body := (.cons (.ret (.call "closed_from" (.cons (.call "wanted" (.cons (.var 0) (.cons (.var 1) .nil))) (.cons (.var 2) .nil)))) .nil) }
def f__law_least_c1 : E := (.comp true (.idx (.var 9) (.cst (.int 0))) (.nm 9) (.val (.idx (.var 7) (.cst (.int 1)))) (.cons (.cmp .nin (.idx (.var 9) (.cst (.int 0))) (.var 4)) .nil) [9])
def f__law_least_b1 : Ss := (.cons (.ife (.and (.cmp .nisn (.var 7) (.cst .non)) (.cmp .eq (.idx (.var 7) (.cst (.int 0))) (.var 6))) (.cons (.ife (.cmp .eq (.idx (.var 7) (.cst (.int 1))) (.tup .nil)) (.cons (.ret (.tup .nil)) .nil) .nil) (.cons (.set 8 f__law_least_c1) (.cons (.par [4, 5] (.cons (.bin .add true (.var 4) (.var 8)) (.cons (.bin .add false (.var 5) (.var 8)) .nil))) .nil))) .nil) .nil)
def f__law_least_l1 : S := (.for_ (.nm 7) (.val (.var 1)) f__law_least_b1)
def f__law_least_b2 : Ss := (.cons (.set 6 (.meth .pop (.var 5) .nil)) (.cons (.ife (.cmp .ne (.idx (.var 3) (.var 6)) (.idx (.idx (.var 0) (.cst (.int 0))) (.var 6))) (.cons (.ret (.tup .nil)) .nil) .nil) (.cons f__law_least_l1 .nil)))
def f__law_least_l2 : S := (.while_ (.cmp .ne (.var 5) (.lst true .nil)) f__law_least_b2)
def f__law_least : Fn := { np := 3, nl := 10, fz := true, body := (.cons (.par [3, 4, 5] (.cons (.call "_law_counts" (.cons (.var 0) (.cons (.var 1) .nil))) (.cons (.lst true (.cons (.var 2) .nil)) (.cons (.lst false (.cons (.var 2) .nil)) .nil)))) (.cons f__law_least_l2 (.cons (.ret (.bi .tuple (.cons (.bi (.sorted true) (.cons (.var 4) .nil)) .nil))) .nil))) }
/-- where trains want to go from s on -/
inductive Rch (st : List (Option Way)) (s : Nat) : Nat → Prop
  | base : Rch st s s
  | step {a b : Nat} : Rch st s a → b ∈ hd st a → Rch st s b
open Classical in
/-- the least lot that holds s, or nothing -/
noncomputable def lotAt (t : List Nat) (st : List (Option Way)) (s : Nat) : List Nat :=
  if ∀ x, Rch st s x → (wantN t st x).isSome = true then (List.range t.length).filter fun x => decide (Rch st s x) else []
/-- all that trains want are stations -/
def KidIn (m : Nat) (st : List (Option Way)) : Prop := ∀ w, some w ∈ st → ∀ c ∈ w.f, c.s < m
theorem hd_lt {m : Nat} {st : List (Option Way)} (h : KidIn m st) {a b : Nat} (hb : b ∈ hd st a) : b < m := by
  obtain ⟨o, ho, hb⟩ := List.mem_flatMap.mp hb
  cases o with
  | none => simp [hd1] at hb
  | some w =>
    simp only [hd1] at hb
    split at hb
    · obtain ⟨c, hc, rfl⟩ := List.mem_map.mp hb
      exact h w ho c hc
    · cases hb
theorem Rch.lt {m : Nat} {st : List (Option Way)} {s x : Nat} (h : KidIn m st) (hs : s < m) (r : Rch st s x) : x < m := by
  cases r with
  | base => exact hs
  | step _ hb => exact hd_lt h hb
/-- those that are closed hold all that can be reached -/
theorem Rch.closed {st : List (Option Way)} {s : Nat} {P : Nat → Prop} (h0 : P s) (hc : ∀ a, P a → ∀ b ∈ hd st a, P b) {x : Nat} (r : Rch st s x) : P x := by
  induction r with
  | base => exact h0
  | step _ hb ih => exact hc _ ih _ hb
theorem sorted_filter {m : Nat} {row : List Nat} {P : Nat → Prop} [DecidablePred P] (nd : row.Nodup) (h : ∀ x, x ∈ row ↔ x < m ∧ P x) : (row.mergeSort fun a b => decide (a ≤ b)) = (List.range m).filter fun x => decide (P x) := by
  have s1 := sorted_lt nd
  have s2 : ((List.range m).filter fun x => decide (P x)).Pairwise (· < ·) := List.pairwise_lt_range.filter _
  have p : (row.mergeSort fun a b => decide (a ≤ b)).Perm ((List.range m).filter fun x => decide (P x)) := by
    refine (List.mergeSort_perm row _).trans ?_
    refine (List.perm_ext_iff_of_nodup nd (List.nodup_range.filter _)).mpr fun x => ?_
    rw [h, List.mem_filter, List.mem_range, decide_eq_true_eq]
  exact p.eq_of_pairwise (fun a b _ _ h1 h2 => by omega) s1 s2
theorem lot_of {t : List Nat} {st : List (Option Way)} {s : Nat} (hk : KidIn t.length st) (hs : s < t.length) {row : List Nat} (nd : row.Nodup) (h0 : s ∈ row) (hr : ∀ x ∈ row, Rch st s x) (hc : ∀ x ∈ row, (wantN t st x).isSome = true ∧ ∀ y ∈ hd st x, y ∈ row) :
    (row.mergeSort fun a b => decide (a ≤ b)) = lotAt t st s := by
  classical
  have all : ∀ x, Rch st s x → x ∈ row := fun x h => h.closed h0 fun a ha b hb => (hc a ha).2 b hb
  unfold lotAt
  rw [if_pos fun x h => (hc x (all x h)).1]
  exact sorted_filter nd fun x => ⟨fun h => ⟨(hr x h).lt hk hs, hr x h⟩, fun h => all x h.2⟩
theorem lot_none {t : List Nat} {st : List (Option Way)} {s x : Nat} (h : Rch st s x) (hn : wantN t st x = none) : lotAt t st s = [] := by
  unfold lotAt
  rw [if_neg fun h2 => by have := h2 x h; rw [hn] at this; cases this]
theorem want_hd {t : List Nat} {st : List (Option Way)} {x : Nat} {r : List Nat} (h : wantN t st x = some r) : r = hd st x := by
  unfold wantN at h
  split at h <;> cases h
  rfl
/-- each once -/
def addAll (row : List Nat) : List Nat → List Nat
  | [] => row
  | x :: r => addAll (if x ∈ row then row else row ++ [x]) r
theorem addAll_spec : ∀ (l row : List Nat), (∃ e, addAll row l = row ++ e ∧ ∀ x ∈ e, x ∈ l) ∧ (row.Nodup → (addAll row l).Nodup) ∧ ∀ x ∈ l, x ∈ addAll row l
  | [], row => ⟨⟨[], by simp [addAll]⟩, fun h => h, by simp⟩
  | x :: r, row => by
    simp only [addAll]
    by_cases h : x ∈ row
    · rw [if_pos h]
      obtain ⟨⟨e, h1, h2⟩, h3, h4⟩ := addAll_spec r row
      refine ⟨⟨e, h1, fun y hy => List.mem_cons_of_mem _ (h2 y hy)⟩, h3, fun y hy => ?_⟩
      rcases List.mem_cons.mp hy with rfl | hy
      · rw [h1]; exact List.mem_append_left _ h
      · exact h4 y hy
    · rw [if_neg h]
      obtain ⟨⟨e, h1, h2⟩, h3, h4⟩ := addAll_spec r (row ++ [x])
      refine ⟨⟨x :: e, by rw [h1]; simp, fun y hy => ?_⟩, fun nd => h3 ?_, fun y hy => ?_⟩
      · rcases List.mem_cons.mp hy with rfl | hy
        · simp
        · exact List.mem_cons_of_mem _ (h2 y hy)
      · rw [List.nodup_append]
        refine ⟨nd, by simp, fun a ha b hb => ?_⟩
        rw [List.mem_singleton] at hb
        subst hb
        exact fun e => h (e ▸ ha)
      · rcases List.mem_cons.mp hy with rfl | hy
        · rw [h1]; simp
        · exact h4 y hy
theorem addAll_snoc (x : Nat) : ∀ (l row : List Nat), addAll row (l ++ [x]) = if x ∈ addAll row l then addAll row l else addAll row l ++ [x]
  | [], row => rfl
  | y :: r, row => addAll_snoc x r _
section
variable (kl : Kls) {T : Tbl} (tC : T "closed_from" = some f_closed_from)
include tC
theorem closed_from_ok (n : Nat) (M : Mm) (t : List Nat) (st : List (Option Way)) (s : Nat) (hs : s < t.length) (ht : t.length ≤ 1000) (hk : KidIn t.length st) :
    evCall kl T (n + 1) "closed_from" [.lst ((List.range t.length).map fun s => wantV (wantN t st s)), .int s] M = .ok (.tup ((lotAt t st s).map iv)) M := by
  have sl : PySem.sizeLine = 16777216 := by decide
  let tab : List Vl := (List.range t.length).map fun s => wantV (wantN t st s)
  have tabg : ∀ s, s < t.length → tab[s]? = some (wantV (wantN t st s)) := fun s h => by simp [tab, h]
  have ltab : tab.length = t.length := by simp [tab]
  let σ := fun (k : Nat) (o4 : Option Vl) => [some (.lst tab), some (.int s), some (.ref M.length), some (.int k), o4]
  let mem := fun (row : List Nat) => M ++ [Cl.lst (row.map iv)]
  have body1 : ∀ (k x : Nat) (row : List Nat), row.length < 10000 → evSs kl (evCall kl T n) f_closed_from_b1 (σ k (some (iv x))) (mem row) = .nx (σ k (some (iv x))) (mem (if x ∈ row then row else row ++ [x])) := by
    intro k x row hr
    have hr' : (row.length < PySem.sizeLine) = True := eq_true (by omega)
    simp only [f_closed_from_b1, σ, mem]
    by_cases h : x ∈ row
    · rw [if_pos h]
      simp_arith! [iv, inP_iv, h]
    · rw [if_neg h]
      simp_arith! [iv, inP_iv, h, hr']
  have small : ∀ row : List Nat, row.Nodup → (∀ x ∈ row, x < t.length) → row.length ≤ 1000 := fun row nd h => Nat.le_trans (nodup_len t.length nd h) ht
  have walk : ∀ (k : Nat) (row r : List Nat) (o4 : Option Vl) (hk1 : k < row.length), row.Nodup → (∀ x ∈ row, x < t.length) → wantN t st row[k] = some r → (∀ x ∈ r, x < t.length) →
      ∃ o4', evS kl (evCall kl T n) f_closed_from_l1 (σ k o4) (mem row) = .nx (σ k o4') (mem (addAll row r)) := by
    intro k row r o4 hk1 nd hx hw hr
    have gk : row[k]? = some row[k] := List.getElem?_eq_getElem hk1
    have hxk := hx row[k] (List.getElem_mem hk1)
    have e0 : evS kl (evCall kl T n) f_closed_from_l1 (σ k o4) (mem row) = forL (fun x σ M => bindT (.nm 4) x σ M) (fun σ M => evSs kl (evCall kl T n) f_closed_from_b1 σ M) [] (r.map iv) (σ k o4) (mem row) := by
      have tg := tabg row[k] hxk
      rw [hw] at tg
      simp only [f_closed_from_l1, σ, mem]
      generalize tab = tab at *
      simp_arith! [place_nat, hk1, List.getElem?_map, gk, iv, ltab, hxk, tg, wantV]
    rw [e0]
    refine forL_inv (Q := fun z => ∃ o4', z = .nx (σ k o4') (mem (addAll row r))) (fun j σ' M' => ∃ o4', σ' = σ k o4' ∧ M' = mem (addAll row (r.take j))) ⟨o4, rfl, rfl⟩ (fun _ _ _ _ _ => trivial) ?_ ?_
    · rintro j hj _ _ ⟨o4', rfl, rfl⟩
      have hj2 : j < r.length := by simpa using hj
      have tk : r.take (j + 1) = r.take j ++ [r[j]] := by simp
      obtain ⟨⟨e, q1, q2⟩, q3, _⟩ := addAll_spec (r.take j) row
      have le := small (addAll row (r.take j)) (q3 nd) (fun x hx' => by
        rw [q1] at hx'
        rcases List.mem_append.mp hx' with z | z
        · exact hx x z
        · exact hr x (List.mem_of_mem_take (q2 x z)))
      rw [List.getElem_map]
      refine ⟨_, rfl, ?_⟩
      show Stp _ _ (evSs kl (evCall kl T n) f_closed_from_b1 (σ k (some (iv r[j]))) _)
      rw [body1 k r[j] _ (by omega)]
      exact ⟨_, rfl, by rw [tk, addAll_snoc]⟩
    · rintro _ _ ⟨o4', rfl, rfl⟩
      rw [List.length_map, List.take_length]
      exact ⟨_, rfl⟩
  let Q : RS → Prop := fun z => (∃ row, lotAt t st s = [] ∧ z = .ret (.tup []) (mem row)) ∨
    (∃ k o4 row, row.Nodup ∧ s ∈ row ∧ (∀ x ∈ row, Rch st s x) ∧ (∀ x ∈ row, (wantN t st x).isSome = true ∧ ∀ y ∈ hd st x, y ∈ row) ∧ z = .nx (σ k o4) (mem row))
  have loop : Q (evS kl (evCall kl T n) f_closed_from_l2 (σ 0 none) (mem [s])) := by
    have e0 : evS kl (evCall kl T n) f_closed_from_l2 (σ 0 none) (mem [s]) = whileL (fun σ M => (evE kl (evCall kl T n) (.cmp .lt (.var 3) (.bi .len (.cons (.var 2) .nil))) σ M).bind fun x M1 => R.of (tru M1 x) M1) (fun σ M => evSs kl (evCall kl T n) f_closed_from_b2 σ M) wFuel (σ 0 none) (mem [s]) := by
      simp only [f_closed_from_l2, evS]
    rw [e0]
    refine whileL_inv (Q := Q) (fun m σ' M' => ∃ k o4 row, k ≤ row.length ∧ row.Nodup ∧ s ∈ row ∧ (∀ x ∈ row, Rch st s x) ∧ (∀ j (hj : j < row.length), j < k → (wantN t st row[j]).isSome = true ∧ ∀ y ∈ hd st row[j], y ∈ row) ∧
      m = 1000 - k ∧ σ' = σ k o4 ∧ M' = mem row) ?_ wFuel 1000 _ _ ?_ (by decide)
    · rintro m _ _ ⟨k, o4, row, h1, h2, h3, h4, h5, rfl, rfl, rfl⟩
      have hlt : ∀ x ∈ row, x < t.length := fun x hx => (h4 x hx).lt hk hs
      have le := small row h2 hlt
      by_cases hk1 : k < row.length
      · refine ⟨true, mem row, by simp only [σ, mem]; simp_arith! [hk1], fun h => (by cases h), fun _ => ?_⟩
        have gk : row[k]? = some row[k] := List.getElem?_eq_getElem hk1
        have hxk := hlt row[k] (List.getElem_mem hk1)
        have tg := tabg row[k] hxk
        have hrk := h4 row[k] (List.getElem_mem hk1)
        cases hw : wantN t st row[k] with
        | none =>
          rw [hw] at tg
          have : evSs kl (evCall kl T n) f_closed_from_b2 (σ k o4) (mem row) = .ret (.tup []) (mem row) := by
            simp only [f_closed_from_b2, σ, mem]
            generalize tab = tab at *
            simp_arith! [place_nat, hk1, List.getElem?_map, gk, iv, ltab, hxk, tg, wantV]
          rw [this]
          exact .inl ⟨row, lot_none hrk hw, rfl⟩
        | some r =>
          have er := want_hd hw
          obtain ⟨o4', e⟩ := walk k row r o4 hk1 h2 hlt hw (fun x hx => by rw [er] at hx; exact hd_lt hk hx)
          rw [hw] at tg
          have : evSs kl (evCall kl T n) f_closed_from_b2 (σ k o4) (mem row) = .nx (σ (k + 1) o4') (mem (addAll row r)) := by
            simp only [f_closed_from_b2, σ, mem] at e ⊢
            generalize tab = tab at *
            simp_arith! [place_nat, hk1, List.getElem?_map, gk, iv, ltab, hxk, tg, wantV, e]
            simp
          rw [this]
          obtain ⟨⟨e, q1, q2⟩, q3, q4⟩ := addAll_spec r row
          have hr2 : ∀ x ∈ addAll row r, Rch st s x := fun x hx => by
            rw [q1] at hx
            rcases List.mem_append.mp hx with z | z
            · exact h4 x z
            · exact .step hrk (er ▸ q2 x z)
          have sub : ∀ x ∈ row, x ∈ addAll row r := fun x hx => by rw [q1]; exact List.mem_append_left _ hx
          refine ⟨1000 - (k + 1), by omega, k + 1, o4', addAll row r, by rw [q1, List.length_append]; omega, q3 h2, sub s h3, hr2, ?_, rfl, rfl, rfl⟩
          intro j hj hjk
          have hj1 : j < row.length := by omega
          have ej : (addAll row r)[j] = row[j] := by
            have : (addAll row r)[j]? = row[j]? := by rw [q1, List.getElem?_append_left hj1]
            rw [List.getElem?_eq_getElem hj, List.getElem?_eq_getElem hj1] at this
            exact Option.some.inj this
          rw [ej]
          by_cases e : j = k
          · subst e
            rw [hw]
            exact ⟨rfl, fun y hy => q4 y (er ▸ hy)⟩
          · have := h5 j hj1 (by omega)
            exact ⟨this.1, fun y hy => sub y (this.2 y hy)⟩
      · refine ⟨false, mem row, by simp only [σ, mem]; simp_arith! [hk1], fun _ => .inr ⟨k, o4, row, h2, h3, h4, fun x hx => ?_, rfl⟩, fun h => by cases h⟩
        obtain ⟨j, hj, rfl⟩ := List.mem_iff_getElem.mp hx
        exact h5 j hj (by omega)
    · exact ⟨0, none, [s], by simp, by simp, by simp, fun x hx => by rw [List.mem_singleton.mp hx]; exact .base, fun _ _ h => by omega, rfl, rfl, rfl⟩
  rw [call_of tC rfl]
  simp only [f_closed_from]
  rcases loop with ⟨row, e1, e2⟩ | ⟨k, o4, row, h2, h3, h4, h5, e2⟩
  · rw [e1]
    simp only [σ, mem, tab] at e2
    have e2' := e2
    rw [List.map_cons (l := []), List.map_nil] at e2'
    simp only [iv] at e2'
    rw [show ((0 : Nat) : Int) = 0 from rfl] at e2'
    simp_arith! [e2']
    exact leave_ret (by simp [below, belowL])
  · have el := lot_of hk hs h2 h3 h4 h5
    simp only [σ, mem, tab] at e2
    have e2' := e2
    rw [List.map_cons (l := []), List.map_nil] at e2'
    simp only [iv] at e2'
    rw [show ((0 : Nat) : Int) = 0 from rfl] at e2'
    have cs := canSort_iv row
    have ss := sortV_iv row
    rw [el] at ss
    simp_arith! [e2', cs, ss]
    exact leave_ret (below_pure _ (by simp only [pureV]; exact pure_iv _))
end
section
variable (kl : Kls) {T : Tbl} (tC : T "closed_from" = some f_closed_from) (tWa : T "wanted" = some f_wanted) (tCl : T "closure" = some f_closure)
include tC tWa tCl
theorem closure_ok (n : Nat) (M : Mm) (t : List Nat) (l : List (Nat × Nat)) (st : List (Option Way)) (s : Nat) (hs : s < t.length) (ht : t.length ≤ 1000) (hi : InSt t.length st) (hk : KidIn t.length st) (sm : SmallSt st) :
    evCall kl T (n + 2) "closure" [netV t l, stV st, .int s] M = .ok (.tup ((lotAt t st s).map iv)) M := by
  have e1 := wanted_ok kl tWa n M t l st hi ht sm
  have e2 := closed_from_ok kl tC n M t st s hs ht hk
  rw [call_of tCl rfl]
  simp only [f_closure]
  simp_all_arith! [e1, e2]
  exact leave_ret0 (below_pure _ (by simp only [pureV]; exact pure_iv _))
end
theorem isNon_wv (w : Way) : isNon (wv w) = some false := by rw [wv_def]; rfl
/-- choices at each once -/
def KidNd (st : List (Option Way)) : Prop := ∀ w, some w ∈ st → (w.f.map Way.s).Nodup
section
variable (kl : Kls) {T : Tbl} (tC : T "_law_counts" = some f__law_counts) (tL : T "_law_least" = some f__law_least)
include tC tL
theorem least_ok (n : Nat) (M : Mm) (t : List Nat) (l : List (Nat × Nat)) (st : List (Option Way)) (s : Nat) (hs : s < t.length) (ht : t.length < 1000) (hi : InSt t.length st) (hk : KidIn t.length st) (hn : KidNd st) (hc : ∀ s, s < t.length → cnt st s ≤ t.getD s 0) :
    evCall kl T (n + 2) "_law_least" [netV t l, stV st, .int s] M = .ok (.tup ((lotAt t st s).map iv)) M := by
  have sl : PySem.sizeLine = 16777216 := by decide
  have small : ∀ row : List Nat, row.Nodup → (∀ x ∈ row, x < t.length) → row.length ≤ 1000 := fun row nd h => Nat.le_trans (nodup_len t.length nd h) (by omega)
  let C : Vl := .lst ((cnts t.length st).map iv)
  let σ := fun (found : List Nat) (a : Nat) (o6 o7 o8 : Option Vl) => [some (netV t l), some (stV st), some (.int s), some C, some (.lst (found.map iv)), some (.ref a), o6, o7, o8, none]
  have body1 : ∀ (h : Nat) (o : Option Way) (o8 : Option Vl) (found rows : List Nat) (Y : Mm) (k : Nat), o ∈ st → Y[k]? = some (.lst (rows.map iv)) → found.length ≤ 1000 → rows.length ≤ 1000 →
      (atS h o = false ∧ evSs kl (evCall kl T (n + 1)) f__law_least_b1 (σ found (M.length + k) (some (iv h)) (some (ov o)) o8) (M ++ Y) = .nx (σ found (M.length + k) (some (iv h)) (some (ov o)) o8) (M ++ Y)) ∨
      (∃ w, o = some w ∧ w.s = h ∧ w.f = [] ∧ evSs kl (evCall kl T (n + 1)) f__law_least_b1 (σ found (M.length + k) (some (iv h)) (some (ov o)) o8) (M ++ Y) = .ret (.tup []) (M ++ Y)) ∨
      (∃ w new, o = some w ∧ w.s = h ∧ w.f ≠ [] ∧ new = (w.f.map Way.s).filter (fun x => decide (x ∉ found)) ∧
        ∃ o8', evSs kl (evCall kl T (n + 1)) f__law_least_b1 (σ found (M.length + k) (some (iv h)) (some (ov o)) o8) (M ++ Y) = .nx (σ (found ++ new) (M.length + Y.length) (some (iv h)) (some (ov o)) o8') (M ++ (Y ++ [Cl.lst ((rows ++ new).map iv)]))) := by
    intro h o o8 found rows Y k ho hY hf hr
    cases o with
    | none =>
      refine .inl ⟨rfl, ?_⟩
      simp only [f__law_least_b1, σ, ov, C]
      simp_all_arith! []
    | some w =>
      by_cases h1 : w.s = h
      · by_cases h2 : w.f = []
        · refine .inr (.inl ⟨w, rfl, h1, h2, ?_⟩)
          simp only [f__law_least_b1, σ, ov, C]
          simp_all_arith! [↓isNon_wv, h1, h2, iv]
        · refine .inr (.inr ⟨w, _, rfl, h1, h2, rfl, ?_⟩)
          have fl : w.f.length ≤ 1000 := by
            have nd := hn w ho
            have := small (w.f.map Way.s) nd (fun x hx => by obtain ⟨c, hc', rfl⟩ := List.mem_map.mp hx; exact hk w ho c hc')
            simpa using this
          have c1 : ∀ (M : Mm) (b : Vl) (o8 : Option Vl), evE kl (evCall kl T (n + 1)) f__law_least_c1 [some (netV t l), some (stV st), some (.int s), some C, some (.lst (found.map iv)), some b, some (iv h), some (wv w), o8, none] M = .ok (.lst (((w.f.map Way.s).filter fun x => decide (x ∉ found)).map iv)) M := by
            intro M b o8
            simp only [f__law_least_c1, C]
            simp_all_arith! []
            rw [compI_map0 wv (fun c => decide (c.s ∉ found)) (fun c => iv c.s) w.f ?_ (by omega)]
            · rw [List.filter_map, List.map_map]
              rfl
            · intro c _
              refine ⟨_, rfl, ?_, fun _ => by simp_all_arith! []⟩
              simp_all_arith! [iv, inP_iv]
              simp
          have ne : eqP (.tup (w.f.map wv)) (.tup []) = some false := by
            rw [eqP_tnil (pure_wvm _), List.isEmpty_map]
            cases q : w.f with
            | nil => exact absurd q h2
            | cons => rfl
          have l1 : (found.length + ((w.f.map Way.s).filter fun x => decide (x ∉ found)).length ≤ PySem.sizeLine) = True := by
            refine eq_true ?_
            have := List.length_filter_le (fun x => decide (x ∉ found)) (w.f.map Way.s)
            rw [List.length_map] at this
            omega
          have l2 : (rows.length + ((w.f.map Way.s).filter fun x => decide (x ∉ found)).length ≤ PySem.sizeLine) = True := by
            refine eq_true ?_
            have := List.length_filter_le (fun x => decide (x ∉ found)) (w.f.map Way.s)
            rw [List.length_map] at this
            omega
          simp only [C] at c1
          simp only [f__law_least_b1, σ, ov, C]
          generalize (w.f.map Way.s).filter (fun x => decide (x ∉ found)) = new at *
          refine ⟨some (.lst (new.map iv)), ?_⟩
          simp_all_arith! [↓isNon_wv, h1, iv, ne, c1, hY, l1, l2]
      · refine .inl ⟨by simp [atS, h1], ?_⟩
        simp only [f__law_least_b1, σ, ov, C]
        simp_all_arith! [↓isNon_wv, h1, iv]
  have memhd : ∀ (w : Way) (h : Nat), some w ∈ st → w.s = h → ∀ x ∈ w.f.map Way.s, x ∈ hd st h := fun w h hw e x hx =>
    List.mem_flatMap.mpr ⟨some w, hw, by simp only [hd1, if_pos e]; exact hx⟩
  have walk : ∀ (h : Nat) (found rows : List Nat) (Y : Mm) (k : Nat) (o7 o8 : Option Vl), found.Nodup → (∀ x ∈ found, x < t.length) → rows.length ≤ found.length → Y[k]? = some (.lst (rows.map iv)) →
      (endAt st h ∧ ∃ Y', evS kl (evCall kl T (n + 1)) f__law_least_l1 (σ found (M.length + k) (some (iv h)) o7 o8) (M ++ Y) = .ret (.tup []) (M ++ Y')) ∨
      (¬ endAt st h ∧ ∃ (ex : List Nat) (Y' : Mm) (k' : Nat) (o7' o8' : Option Vl), (found ++ ex).Nodup ∧ (∀ x ∈ ex, x ∈ hd st h) ∧ (∀ y ∈ hd st h, y ∈ found ++ ex) ∧ Y'[k']? = some (.lst ((rows ++ ex).map iv)) ∧
        evS kl (evCall kl T (n + 1)) f__law_least_l1 (σ found (M.length + k) (some (iv h)) o7 o8) (M ++ Y) = .nx (σ (found ++ ex) (M.length + k') (some (iv h)) o7' o8') (M ++ Y')) := by
    intro h found rows Y k o7 o8 nd hx hl hY
    have e0 : evS kl (evCall kl T (n + 1)) f__law_least_l1 (σ found (M.length + k) (some (iv h)) o7 o8) (M ++ Y) = forL (fun x σ M => bindT (.nm 7) x σ M) (fun σ M => evSs kl (evCall kl T (n + 1)) f__law_least_b1 σ M) [] (st.map ov) (σ found (M.length + k) (some (iv h)) o7 o8) (M ++ Y) := by
      simp only [f__law_least_l1, σ, C]
      simp_all_arith! []
    rw [e0]
    refine forL_inv (Q := fun z => (endAt st h ∧ ∃ Y', z = .ret (.tup []) (M ++ Y')) ∨
      (¬ endAt st h ∧ ∃ (ex : List Nat) (Y' : Mm) (k' : Nat) (o7' o8' : Option Vl), (found ++ ex).Nodup ∧ (∀ x ∈ ex, x ∈ hd st h) ∧ (∀ y ∈ hd st h, y ∈ found ++ ex) ∧ Y'[k']? = some (.lst ((rows ++ ex).map iv)) ∧ z = .nx (σ (found ++ ex) (M.length + k') (some (iv h)) o7' o8') (M ++ Y')))
      (fun j σ' M' => ∃ (ex : List Nat) (Y' : Mm) (k' : Nat) (o7' o8' : Option Vl), (found ++ ex).Nodup ∧ (∀ x ∈ ex, x ∈ hd st h) ∧ (∀ w, some w ∈ st.take j → w.s = h → w.f ≠ [] ∧ ∀ y ∈ w.f.map Way.s, y ∈ found ++ ex) ∧ Y'[k']? = some (.lst ((rows ++ ex).map iv)) ∧
        σ' = σ (found ++ ex) (M.length + k') (some (iv h)) o7' o8' ∧ M' = M ++ Y') ?_ (fun _ _ _ _ _ => trivial) ?_ ?_
    · exact ⟨[], Y, k, o7, o8, by simpa using nd, by simp, by simp, by simpa using hY, by simp, rfl⟩
    · rintro j hj _ _ ⟨ex, Y', k', o7', o8', h1, h2, h3, h4, rfl, rfl⟩
      have hj2 : j < st.length := by simpa using hj
      have hm : st[j] ∈ st := List.getElem_mem hj2
      have tk : st.take (j + 1) = st.take j ++ [st[j]] := by simp
      have le := small (found ++ ex) h1 (fun x hx' => by
        rcases List.mem_append.mp hx' with z | z
        · exact hx x z
        · exact hd_lt hk (h2 x z))
      rw [List.length_append] at le
      rw [List.getElem_map]
      refine ⟨_, rfl, ?_⟩
      show Stp _ _ (evSs kl (evCall kl T (n + 1)) f__law_least_b1 (σ (found ++ ex) (M.length + k') (some (iv h)) (some (ov st[j])) o8') _)
      rcases body1 h st[j] o8' (found ++ ex) (rows ++ ex) Y' k' hm h4 (by rw [List.length_append]; omega) (by rw [List.length_append]; omega) with ⟨a, e⟩ | ⟨w, a, b, c, e⟩ | ⟨w, new, a, b, c, d, o8'', e⟩
      · rw [e]
        refine ⟨ex, Y', k', _, _, h1, h2, fun w hw hs' => ?_, h4, rfl, rfl⟩
        rw [tk] at hw
        rcases List.mem_append.mp hw with z | z
        · exact h3 w z hs'
        · have z := List.mem_singleton.mp z
          rw [← z] at a
          simp only [atS, hs', decide_true] at a
          cases a
      · rw [e]
        exact .inl ⟨⟨w, a ▸ hm, b, c⟩, _, rfl⟩
      · rw [e]
        have ndw := hn w (a ▸ hm)
        have fr : (Y' ++ [Cl.lst ((rows ++ ex ++ new).map iv)])[Y'.length]? = some (.lst ((rows ++ (ex ++ new)).map iv)) := by simp [List.append_assoc]
        refine ⟨ex ++ new, Y' ++ [Cl.lst ((rows ++ ex ++ new).map iv)], Y'.length, some (ov st[j]), o8'', ?_, ?_, ?_, fr, by rw [List.append_assoc], rfl⟩
        · rw [← List.append_assoc, List.nodup_append]
          refine ⟨h1, d ▸ ndw.filter _, fun x hx1 y hy e => ?_⟩
          subst e
          rw [d] at hy
          have := (List.mem_filter.mp hy).2
          simp only [decide_eq_true_eq] at this
          exact this hx1
        · intro x hx1
          rcases List.mem_append.mp hx1 with z | z
          · exact h2 x z
          · rw [d] at z
            exact memhd w h (a ▸ hm) b x (List.mem_filter.mp z).1
        · intro w2 hw hs'
          rw [tk] at hw
          rcases List.mem_append.mp hw with z | z
          · obtain ⟨q1, q2⟩ := h3 w2 z hs'
            refine ⟨q1, fun y hy => ?_⟩
            rw [← List.append_assoc]
            exact List.mem_append_left _ (q2 y hy)
          · have z := List.mem_singleton.mp z
            rw [a] at z
            cases z
            refine ⟨c, fun y hy => ?_⟩
            rw [← List.append_assoc]
            by_cases q : y ∈ found ++ ex
            · exact List.mem_append_left _ q
            · refine List.mem_append_right _ ?_
              rw [d, List.mem_filter]
              exact ⟨hy, by simpa using q⟩
    · rintro _ _ ⟨ex, Y', k', o7', o8', h1, h2, h3, h4, rfl, rfl⟩
      rw [List.length_map, List.take_length] at h3
      refine .inr ⟨?_, ex, Y', k', o7', o8', h1, h2, ?_, h4, rfl⟩
      · rintro ⟨w, hw, e, f⟩
        exact (h3 w hw e).1 f
      · intro y hy
        obtain ⟨o, ho, hy⟩ := List.mem_flatMap.mp hy
        cases o with
        | none => simp [hd1] at hy
        | some w =>
          simp only [hd1] at hy
          split at hy
          · rename_i e
            exact (h3 w ho e).2 y hy
          · cases hy
  let Q : RS → Prop := fun z => (∃ Y, lotAt t st s = [] ∧ z = .ret (.tup []) (M ++ Y)) ∨
    (∃ (found : List Nat) (Y : Mm) (k : Nat) (o6 o7 o8 : Option Vl), found.Nodup ∧ s ∈ found ∧ (∀ x ∈ found, Rch st s x) ∧ (∀ x ∈ found, (wantN t st x).isSome = true ∧ ∀ y ∈ hd st x, y ∈ found) ∧ z = .nx (σ found (M.length + k) o6 o7 o8) (M ++ Y))
  have loop : Q (evS kl (evCall kl T (n + 1)) f__law_least_l2 (σ [s] (M.length + 0) none none none) (M ++ [Cl.lst ([s].map iv)])) := by
    have e0 : evS kl (evCall kl T (n + 1)) f__law_least_l2 (σ [s] (M.length + 0) none none none) (M ++ [Cl.lst ([s].map iv)]) = whileL (fun σ M => (evE kl (evCall kl T (n + 1)) (.cmp .ne (.var 5) (.lst true .nil)) σ M).bind fun x M1 => R.of (tru M1 x) M1) (fun σ M => evSs kl (evCall kl T (n + 1)) f__law_least_b2 σ M) wFuel (σ [s] (M.length + 0) none none none) (M ++ [Cl.lst ([s].map iv)]) := by
      simp only [f__law_least_l2, evS]
    rw [e0]
    refine whileL_inv (Q := Q) (fun m σ' M' => ∃ (found rows done : List Nat) (Y : Mm) (k : Nat) (o6 o7 o8 : Option Vl), found.Nodup ∧ s ∈ found ∧ (∀ x ∈ found, Rch st s x) ∧ (rows ++ done).Perm found ∧ (∀ x ∈ done, (wantN t st x).isSome = true ∧ ∀ y ∈ hd st x, y ∈ found) ∧
      Y[k]? = some (.lst (rows.map iv)) ∧ m = rows.length + (1000 - found.length) ∧ σ' = σ found (M.length + k) o6 o7 o8 ∧ M' = M ++ Y) ?_ wFuel 1000 _ _ ?_ (by decide)
    · rintro m _ _ ⟨found, rows, done, Y, k, o6, o7, o8, h1, h2, h3, h4, h5, h6, rfl, rfl, rfl⟩
      have hlt : ∀ x ∈ found, x < t.length := fun x hx => (h3 x hx).lt hk hs
      have le := small found h1 hlt
      have plen := h4.length_eq
      rw [List.length_append] at plen
      rcases List.eq_nil_or_concat rows with rfl | ⟨rs, h, rfl⟩
      · refine ⟨false, M ++ Y, ?_, fun _ => .inr ⟨found, Y, k, o6, o7, o8, h1, h2, h3, fun x hx => ?_, rfl⟩, fun h => by cases h⟩
        · simp only [σ]
          rw [List.map_nil] at h6
          simp_arith! [h6]
        · have := h4.symm.subset hx
          exact h5 x (by simpa using this)
      · rw [List.concat_eq_append] at *
        have hin : h ∈ found := h4.subset (by simp)
        have hh := hlt h hin
        have rh := h3 h hin
        refine ⟨true, M ++ Y, ?_, fun h => (by cases h), fun _ => ?_⟩
        · simp only [σ]
          have ie : ((rs ++ [h]).map iv).isEmpty = false := by simp
          have e : eqP (.lst (rs.map iv ++ [iv h])) (.lst []) = some false := by
            have e := eqP_lnil (pure_iv (rs ++ [h]))
            rwa [ie, List.map_append] at e
          simp_arith [get_app, h6, e]
        have hkY : k < Y.length := by
          have := List.getElem?_eq_some_iff.mp h6
          exact this.1
        have gt : t[h]? = some t[h] := List.getElem?_eq_getElem hh
        have gd : t.getD h 0 = t[h] := by simp [List.getD, hh]
        have lastp : ((rs ++ [h]).map iv)[((rs ++ [h]).map iv).length - 1]? = some (iv h) := by simp
        have dropp : ((rs ++ [h]).map iv).dropLast = rs.map iv := by simp
        have hY2 : (Y.set k (Cl.lst (rs.map iv)))[k]? = some (.lst (rs.map iv)) := by rw [List.getElem?_set_self hkY]
        by_cases hc2 : cnt st h = t[h]
        · have e1 : evSs kl (evCall kl T (n + 1)) f__law_least_b2 (σ found (M.length + k) o6 o7 o8) (M ++ Y) = (evS kl (evCall kl T (n + 1)) f__law_least_l1 (σ found (M.length + k) (some (iv h)) o7 o8) (M ++ Y.set k (Cl.lst (rs.map iv)))).thn fun σ M => .nx σ M := by
            simp only [f__law_least_b2, σ, C]
            have cg := cnts_get (n := t.length) (st := st) hh
            simp only [List.map_append, List.map_cons, List.map_nil] at h6
            simp_arith! [h6, cellL, setL, iv, place_nat, cnts_len, hh, List.getElem?_map, cg, gt, eq_true hc2]
            rfl
          rw [e1]
          rcases walk h found rs (Y.set k (Cl.lst (rs.map iv))) k o7 o8 h1 hlt (by rw [List.length_append] at plen; omega) hY2 with ⟨a, Y', e⟩ | ⟨a, ex, Y', k', o7', o8', g1, g2, g3, g4, e⟩
          · rw [e]
            exact .inl ⟨Y', lot_none rh (by unfold wantN; rw [if_pos (.inl a)]), rfl⟩
          · rw [e]
            have g2' : ∀ x ∈ found ++ ex, Rch st s x := fun x hx => by
              rcases List.mem_append.mp hx with z | z
              · exact h3 x z
              · exact .step rh (g2 x z)
            have le2 := small (found ++ ex) g1 (fun x hx => (g2' x hx).lt hk hs)
            have hw : (wantN t st h).isSome = true := by
              unfold wantN
              rw [if_neg (by rw [gd]; rintro (z | z); exact a z; omega)]
              rfl
            rw [List.length_append] at le2
            refine ⟨_, ?_, found ++ ex, rs ++ ex, h :: done, Y', k', some (iv h), o7', o8', g1, List.mem_append_left _ h2, g2', ?_, ?_, g4, rfl, rfl, rfl⟩
            · simp only [List.length_append, List.length_singleton]; omega
            · have p1 : (rs ++ ex ++ h :: done).Perm ((rs ++ [h] ++ done) ++ ex) := by
                rw [List.append_assoc, List.append_assoc, List.append_assoc]
                refine List.Perm.append_left _ ?_
                refine (List.perm_append_comm).trans (List.Perm.of_eq ?_)
                simp
              exact p1.trans (h4.append_right _)
            · intro x hx
              rcases List.mem_cons.mp hx with rfl | hx
              · exact ⟨hw, g3⟩
              · exact ⟨(h5 x hx).1, fun y hy => List.mem_append_left _ ((h5 x hx).2 y hy)⟩
        · have e1 : evSs kl (evCall kl T (n + 1)) f__law_least_b2 (σ found (M.length + k) o6 o7 o8) (M ++ Y) = .ret (.tup []) (M ++ Y.set k (Cl.lst (rs.map iv))) := by
            simp only [f__law_least_b2, σ, C]
            have cg := cnts_get (n := t.length) (st := st) hh
            simp only [List.map_append, List.map_cons, List.map_nil] at h6
            simp_arith! [h6, cellL, setL, iv, place_nat, cnts_len, hh, List.getElem?_map, cg, gt, eq_false hc2]
          rw [e1]
          have := hc h hh
          exact .inl ⟨_, lot_none rh (by unfold wantN; rw [if_pos (.inr (by omega))]), rfl⟩
    · exact ⟨[s], [s], [], _, 0, none, none, none, by simp, by simp, fun x hx => by rw [List.mem_singleton.mp hx]; exact .base, by simp, by simp, rfl, rfl, rfl, rfl⟩
  have eC := counts_ok kl tC n M t l st hi ht
  rw [call_of tL rfl]
  simp only [f__law_least]
  rcases loop with ⟨Y, e1, e2⟩ | ⟨found, Y, k, o6, o7, o8, h2, h3, h4, h5, e2⟩
  · rw [e1]
    simp only [σ, C] at e2
    rw [List.map_cons (l := []), List.map_nil] at e2
    simp only [iv, Nat.add_zero] at e2
    simp_all_arith! [eC, e2]
    exact leave_ret (by simp [below, belowL])
  · have el := lot_of hk hs h2 h3 h4 h5
    simp only [σ, C] at e2
    rw [List.map_cons (l := []), List.map_nil] at e2
    simp only [iv, Nat.add_zero] at e2
    have cs := canSort_iv found
    have ss := sortV_iv found
    rw [el] at ss
    simp_all_arith! [eC, e2, cs, ss]
    exact leave_ret (below_pure _ (by simp only [pureV]; exact pure_iv _))
end
end Sx
end

section
set_option Elab.async false
set_option linter.all false
set_option maxRecDepth 100000
/-! Sg, part 41: odd values, ways with something turned. -/
namespace Sx
open Sg
open PySem (Str PyData)
local macro_rules
| `(tactic| simp_arith [$ls,*]) => `(tactic| simp (config := { decide := false, implicitDefEqProofs := false }) only [↓e_var, ↓e_cst, ↓e_glb, ↓e_tup,
    ↓e_lst, ↓e_dct, ↓e_dic, ↓e_bin, ↓e_neg, ↓e_not, ↓e_and, ↓e_or, ↓e_cmp, ↓e_cmp2, ↓e_ite, ↓e_idx, ↓e_sl, ↓e_rev, ↓e_comp, ↓e_call, ↓e_callk, ↓e_bi,
    ↓e_src, ↓e_meth, ↓e_xfld, ↓e_xisi, ↓es_nil, ↓es_cons, ↓cs_nil, ↓cs_one, ↓oe_no, ↓oe_so, ↓sr_val, ↓sr_enum, ↓sr_zip, ↓sr_rng1, ↓sr_rng2, ↓s_expr,
    ↓s_set, ↓s_setT, ↓s_par, ↓s_setI, ↓s_augI, ↓s_augN, ↓s_ret, ↓s_retN, ↓s_ife, ↓s_for, ↓s_raise, ↓s_try, ↓s_pass, ↓s_brk, ↓s_cnt, ↓ss_nil, ↓ss_cons,
    ↓hs_nil, ↓hs_cons, ↓hs_none, evKs, bindI_ok, bindI_exc, bindI_bad, thnI_ok, thnI_exc, thnI_bad, sthnI_nx, sthnI_brk, sthnI_cnt, sthnI_ret,
    sthnI_exc, sthnI_bad, R.of_some, R.of_none, R.bind_ok, R.thn_ok, RS.thn_nx, List.getElem?_cons_zero, List.getElem?_cons_succ, List.set_cons_zero,
    List.set_cons_succ, Option.bind_some, Option.bind_none, Option.map_some, Option.map_none, id, varV_non, varV_bl, varV_int, varV_str, varV_tup,
    varV_lst, varV_ref, varV_scr, varV_dic, rd_dic, rd_non, rd_bl, rd_int, rd_str, rd_tup, rd_lst, rd_scr, seq_tup, seq_lst, seqLst_lst, tru_bl,
    tru_non, mkL_f, mkL_c, startS_def, List.map_cons, List.map_nil, List.cons_append, List.nil_append, List.replicate_succ, List.replicate_zero,
    Nat.sub_self, Nat.reduceSub, Nat.reduceAdd, bin2, addV, cmpV, eqR_P, eqP_int, inR_P, pureL_ints, pureL_nats, pureL_nil, pureL_cons, Bool.and_true,
    Bool.true_and, List.isEmpty_cons, List.isEmpty_nil, Bool.not_false, Bool.not_true, inP_ints, inP_nats, eqP_lnil, eqP_tnil, intsOf_map, rd_b1,
    rd_b2, pureV, setIV, augGet, methV, methL, setL, bindT, wipeS, List.foldr_cons, List.foldr_nil, setAll, intOf, slV, cutL_take, cutL_drop,
    cutL_drop1, cutL_take1, ordV, isNon, biV, keyOf_str, keyOf_int, lookK_cons, lookK_nil, idxV, rd_r, cellL, lt_line, getD_z, getD_s, Int.ofNat_inj,
    cast0, cast1, cast0', List.dropLast_concat, last_app, last_app', last_map, Nat.add_sub_cancel, Nat.zero_add, List.map_append, Int.ofNat_lt,
    Int.ofNat_le, Nat.reduceLT, List.zip_cons_cons, List.zip_nil_left, List.zip_nil_right, List.foldl_cons, List.foldl_nil, List.any_cons,
    List.any_nil, decide_true, decide_false, Bool.or_true, Bool.true_or, Bool.or_false, Bool.false_or, Bool.false_eq_true, place_zero, place_1,
    place_2, place_3, place_4, List.length_cons, List.length_map, List.length_append, List.length_nil, Option.some.injEq, Sum.inr.injEq, Sum.inl.injEq,
    Int.reduceLT, Int.reduceLE, true_and, and_true, and_self, List.isEmpty_map, reduceIte, reduceCtorEq, if_true, if_false, $ls,*])
local macro_rules
  | `(tactic| simp_all_arith [$ls,*]) => `(tactic| simp_arith [bgm_len, bgm_app, bgm_get0, bgm_get1, bgm_get2, bgm_set0, bgm_set1, bgm_set2, List.append_assoc, Nat.add_assoc, $ls,*])
local macro_rules
  | `(tactic| simp_arith! [$ls,*]) => `(tactic| simp_arith [varV_net, rd_net, get_app, get_app0, set_app, set_app0, List.append_assoc, Nat.add_assoc, $ls,*])
local macro_rules
  | `(tactic| simp_all_arith! [$ls,*]) => `(tactic| simp_arith! [varV_wv, rd_wv, varV_st, rd_st, bgm_len, bgm_app, bgm_get0, bgm_get1, bgm_get2, bgm_set0, bgm_set1, bgm_set2, $ls,*])
def f__law_odd : Fn := { np := 1, nl := 1, fz := true, body := (.cons (.ret (.call "_law_pick" (.cons (.var 0) (.cons (.lst true (.cons (.cst .non) (.cons (.cst (.bl true)) (.cons (.cst (.bl false)) (.cons (.neg (.cst (.int 1))) (.cons (.cst (.int 0)) (.cons (.cst (.int 7)) (.cons (.bin .pow true (.cst (.int 10)) (.cst (.int 30))) (.cons (.cst (.str (PySem.Str.ofString ""))) (.cons (.cst (.str (PySem.Str.ofString "0"))) (.cons (.tup .nil) (.cons (.lst true .nil) (.cons .dic (.cons (.tup (.cons (.cst (.int 0)) .nil)) (.cons (.tup (.cons (.cst (.int 0)) (.cons (.tup .nil) .nil))) (.cons (.lst true (.cons (.cst (.int 0)) (.cons (.tup .nil) .nil))) (.cons (.tup (.cons (.tup .nil) .nil)) .nil))))))))))))))))) .nil)))) .nil) }
def f__law_bent_b1 : Ss := (.cons (.set 10 (.tup (.cons (.cst (.int 0)) (.cons (.bin .mul true (.tup (.cons (.var 10) .nil)) (.cst (.int 3))) .nil)))) .nil)
def f__law_bent_l1 : S := (.for_ (.nm 11) (.rng1 (.bin .add true (.cst (.int 2)) (.call "_law_draw" (.cons (.var 0) (.cons (.cst (.int 3)) .nil))))) f__law_bent_b1)
def f__law_bent_b2 : Ss := (.cons (.set 9 (.tup (.cons (.call "_law_draw" (.cons (.var 0) (.cons (.var 6) .nil))) (.cons (.tup (.cons (.var 9) .nil)) .nil)))) .nil)
def f__law_bent_l2 : S := (.for_ (.nm 11) (.rng1 (.call "_law_pick" (.cons (.var 0) (.cons (.lst true (.cons (.cst (.int 2)) (.cons (.cst (.int 3)) (.cons (.cst (.int 4)) (.cons (.cst (.int 12)) (.cons (.cst (.int 13)) .nil)))))) .nil)))) f__law_bent_b2)
def f__law_bent : Fn := { np := 3, nl := 12, fz := true, body := (.cons (.setT [3, 4] (.var 2)) (.cons (.ife (.and (.cmp .ne (.var 4) (.tup .nil)) (.cmp .eq (.call "_law_draw" (.cons (.var 0) (.cons (.cst (.int 2)) .nil))) (.cst (.int 0)))) (.cons (.set 5 (.call "_law_draw" (.cons (.var 0) (.cons (.bi .len (.cons (.var 4) .nil)) .nil)))) (.cons (.ret (.tup (.cons (.var 3) (.cons (.bin .add true (.bin .add true (.sl true (.var 4) .no (.so (.var 5))) (.tup (.cons (.call "_law_bent" (.cons (.var 0) (.cons (.var 1) (.cons (.idx (.var 4) (.var 5)) .nil)))) .nil))) (.sl true (.var 4) (.so (.bin .add true (.var 5) (.cst (.int 1)))) .no)) .nil)))) .nil)) .nil) (.cons (.par [6, 7] (.cons (.bi .len (.cons (.idx (.var 1) (.cst (.int 0))) .nil)) (.cons (.call "_law_draw" (.cons (.var 0) (.cons (.cst (.int 9)) .nil))) .nil))) (.cons (.ife (.cmp .lt (.var 7) (.cst (.int 3))) (.cons (.ret (.tup (.cons (.call "_law_pick" (.cons (.var 0) (.cons (.lst true (.cons (.var 6) (.cons (.neg (.cst (.int 1))) (.cons (.cst (.bl true)) (.cons (.cst (.bl false)) (.cons (.cst .non) (.cons (.cst (.str (PySem.Str.ofString "0"))) (.cons (.tup (.cons (.cst (.int 0)) .nil)) (.cons (.call "_law_draw" (.cons (.var 0) (.cons (.var 6) .nil))) (.cons (.bin .pow true (.cst (.int 10)) (.cst (.int 20))) .nil)))))))))) .nil))) (.cons (.var 4) .nil)))) .nil) .nil) (.cons (.ife (.cmp .lt (.var 7) (.cst (.int 5))) (.cons (.set 8 (.call "_law_pick" (.cons (.var 0) (.cons (.lst true (.cons (.call "_law_odd" (.cons (.var 0) .nil)) (.cons (.tup (.cons (.call "_law_draw" (.cons (.var 0) (.cons (.var 6) .nil))) (.cons (.tup .nil) .nil))) (.cons (.tup (.cons (.call "_law_draw" (.cons (.var 0) (.cons (.var 6) .nil))) (.cons (.tup (.cons (.tup (.cons (.cst (.int 0)) (.cons (.tup .nil) .nil))) .nil)) .nil))) .nil)))) .nil)))) (.cons (.set 5 (.call "_law_draw" (.cons (.var 0) (.cons (.bin .add true (.bi .len (.cons (.var 4) .nil)) (.cst (.int 1))) .nil)))) (.cons (.ret (.tup (.cons (.var 3) (.cons (.bin .add true (.bin .add true (.sl true (.var 4) .no (.so (.var 5))) (.tup (.cons (.var 8) .nil))) (.sl true (.var 4) (.so (.var 5)) .no)) .nil)))) .nil))) .nil) (.cons (.ife (.cmp .eq (.var 7) (.cst (.int 5))) (.cons (.ret (.call "_law_pick" (.cons (.var 0) (.cons (.lst true (.cons (.lst true (.cons (.var 3) (.cons (.var 4) .nil))) (.cons (.tup (.cons (.var 3) .nil)) (.cons (.tup (.cons (.var 3) (.cons (.var 4) (.cons (.tup .nil) .nil)))) (.cons (.call "_law_odd" (.cons (.var 0) .nil)) (.cons (.var 4) .nil)))))) .nil)))) .nil) .nil) (.cons (.ife (.cmp .eq (.var 7) (.cst (.int 6))) (.cons (.ret (.tup (.cons (.var 3) (.cons (.call "_law_pick" (.cons (.var 0) (.cons (.lst true (.cons (.bi (.list true) (.cons (.var 4) .nil)) (.cons (.bin .mul true (.var 4) (.cst (.int 2))) (.cons (.rev true (.var 4)) (.cons (.bin .mul true (.sl true (.var 4) .no (.so (.cst (.int 1)))) (.cst (.int 4))) (.cons (.cst .non) (.cons .dic .nil))))))) .nil))) .nil)))) .nil) .nil) (.cons (.par [9, 10] (.cons (.tup (.cons (.var 3) (.cons (.var 4) .nil))) (.cons (.tup (.cons (.cst (.int 0)) (.cons (.tup .nil) .nil))) .nil))) (.cons (.ife (.cmp .eq (.var 7) (.cst (.int 7))) (.cons f__law_bent_l2 (.cons (.ret (.var 9)) .nil)) .nil) (.cons f__law_bent_l1 (.cons (.ret (.tup (.cons (.var 3) (.cons (.tup (.cons (.var 10) .nil)) .nil)))) .nil))))))))))) }
/-- what may be shown, of bounded size -/
structure Okv (v : Vl) (c d : Nat) : Prop where
  l1 : lf v = true
  s1 : sz v ≤ c
  d1 : dep v ≤ d
theorem Okv.mono {v : Vl} {c d c' d' : Nat} (h : Okv v c d) (h1 : c ≤ c') (h2 : d ≤ d') : Okv v c' d' := ⟨h.l1, Nat.le_trans h.s1 h1, Nat.le_trans h.d1 h2⟩
theorem Okv.R {v : Vl} {c d : Nat} (h : Okv v c d) : pureR v = true := lf_pure h.l1
theorem Okv.int {i : Int} (h : i.natAbs < 10 ^ 40) : Okv (.int i) 50 0 := ⟨by simp only [lf, decide_eq_true_eq]; exact h, by simp [sz], by simp [dep]⟩
theorem Okv.nat {n : Nat} (h : n < 1000000) : Okv (.int n) 50 0 := Okv.int (by
  have q : (10 : Nat) ^ 6 < 10 ^ 40 := by decide
  have e : ((n : Int)).natAbs = n := by omega
  rw [e]
  exact Nat.lt_trans h q)
theorem Okv.t0 : Okv (.tup []) 3 1 := ⟨rfl, by simp [sz, szL], by simp [dep, depL]⟩
theorem Okv.t1 {a : Vl} {c d : Nat} (h : Okv a c d) : Okv (.tup [a]) (c + 5) (d + 1) :=
  ⟨by simp [lf, lfL, h.l1], by have := h.s1; simp only [sz, szL]; omega, by have := h.d1; simp only [dep, depL]; omega⟩
theorem Okv.t2 {a b : Vl} {c d c' d' : Nat} (h : Okv a c d) (h' : Okv b c' d') : Okv (.tup [a, b]) (c + c' + 7) (max d d' + 1) :=
  ⟨by simp [lf, lfL, h.l1, h'.l1], by have := h.s1; have := h'.s1; simp only [sz, szL]; omega, by have := h.d1; have := h'.d1; simp only [dep, depL]; omega⟩
theorem Okv.t3 {a b x : Vl} {c d c' d' p q : Nat} (h : Okv a c d) (h' : Okv b c' d') (h2 : Okv x p q) : Okv (.tup [a, b, x]) (c + c' + p + 9) (max d (max d' q) + 1) :=
  ⟨by simp [lf, lfL, h.l1, h'.l1, h2.l1], by have := h.s1; have := h'.s1; have := h2.s1; simp only [sz, szL]; omega, by have := h.d1; have := h'.d1; have := h2.d1; simp only [dep, depL]; omega⟩
theorem Okv.l2 {a b : Vl} {c d c' d' : Nat} (h : Okv a c d) (h' : Okv b c' d') : Okv (.lst [a, b]) (c + c' + 7) (max d d' + 1) :=
  ⟨by simp [lf, lfL, h.l1, h'.l1], by have := h.s1; have := h'.s1; simp only [sz, szL]; omega, by have := h.d1; have := h'.d1; simp only [dep, depL]; omega⟩
/-- the values of the odd kind -/
def oddL : List Vl := [.non, .bl true, .bl false, .int (-1), .int 0, .int 7, .int (10 ^ Int.toNat 30), .str (Str.ofString ""), .str (Str.ofString "0"), .tup [], .lst [], .dic, .tup [.int 0], .tup [.int 0, .tup []], .lst [.int 0, .tup []], .tup [.tup []]]
theorem oddL_ok : ∀ v ∈ oddL, Okv v 120 2 := by
  have h : oddL.all (fun v => lf v && decide (sz v ≤ 120) && decide (dep v ≤ 2)) = true := by decide +kernel
  intro v hv
  have := List.all_eq_true.mp h v hv
  simp only [Bool.and_eq_true, decide_eq_true_eq] at this
  exact ⟨this.1.1, this.1.2, this.2⟩
section
variable (kl : Kls) {T : Tbl} (tD : T "_law_draw" = some f__law_draw) (tP : T "_law_pick" = some f__law_pick) (tO : T "_law_odd" = some f__law_odd)
include tD tP tO
theorem odd_ok (n : Nat) (B : Bag) (hB : B.Ok) (X : Mm) : ∃ (v : Vl) (B' : Bag), B'.Ok ∧ Okv v 120 2 ∧ evCall kl T (n + 3) "_law_odd" [.ref 1] (bgm B X) = .ok v (bgm B' X) := by
  obtain ⟨v, B', h1, h2, e⟩ := pickR_ok kl tD tP n B hB X oddL (by decide +kernel) (by simp [oddL]) (by simp [oddL])
  refine ⟨v, B', h1, oddL_ok v h2, ?_⟩
  rw [call_of tO rfl]
  simp only [f__law_odd]
  have p : (Int.natAbs 10 < 2 ^ 64) = True := eq_true (by decide)
  simp only [oddL] at e
  simp_all_arith! [p, e]
  exact leave_bgm0 (below_R _ (oddL_ok v h2).R)
end
theorem depL_app (l m : List Vl) : depL (l ++ m) = max (depL l) (depL m) := by
  induction l with
  | nil => simp [depL]
  | cons a r ih => simp only [List.cons_append, depL, ih]; omega
theorem lfL_app (l m : List Vl) : lfL (l ++ m) = (lfL l && lfL m) := by
  rw [Bool.eq_iff_iff, Bool.and_eq_true]; simp [lfL_iff, or_imp, forall_and]
/-- of a list's items -/
structure Okl (l : List Vl) (c d : Nat) : Prop where
  l1 : lfL l = true
  s1 : szL l ≤ c
  d1 : depL l ≤ d
theorem Okl.tup {l : List Vl} {c d : Nat} (h : Okl l c d) : Okv (.tup l) (c + 3) (d + 1) := ⟨by simp only [lf]; exact h.l1, by simp only [sz]; have := h.s1; omega, by simp only [dep]; have := h.d1; omega⟩
theorem Okl.lst {l : List Vl} {c d : Nat} (h : Okl l c d) : Okv (.lst l) (c + 3) (d + 1) := ⟨by simp only [lf]; exact h.l1, by simp only [sz]; have := h.s1; omega, by simp only [dep]; have := h.d1; omega⟩
theorem Okl.app {l m : List Vl} {c d c' d' : Nat} (h : Okl l c d) (h' : Okl m c' d') : Okl (l ++ m) (c + c') (max d d') := ⟨by rw [lfL_app, h.l1, h'.l1]; rfl, by rw [szL_app]; have := h.s1; have := h'.s1; omega, by rw [depL_app]; have := h.d1; have := h'.d1; omega⟩
theorem Okl.one {v : Vl} {c d : Nat} (h : Okv v c d) : Okl [v] (c + 2) d := ⟨by simp [lfL, h.l1], by simp only [szL]; have := h.s1; omega, by simp only [depL]; have := h.d1; omega⟩
theorem Okl.mono {l : List Vl} {c d c' d' : Nat} (h : Okl l c d) (h1 : c ≤ c') (h2 : d ≤ d') : Okl l c' d' := ⟨h.l1, Nat.le_trans h.s1 h1, Nat.le_trans h.d1 h2⟩
theorem Okl.split {l m : List Vl} {c d : Nat} (h : Okl (l ++ m) c d) : Okl l (szL l) d ∧ Okl m (szL m) d ∧ szL l + szL m ≤ c := by
  have h1 := h.l1
  have h2 := h.s1
  have h3 := h.d1
  rw [lfL_app, Bool.and_eq_true] at h1
  rw [szL_app] at h2
  rw [depL_app] at h3
  exact ⟨⟨h1.1, Nat.le_refl _, by omega⟩, ⟨h1.2, Nat.le_refl _, by omega⟩, h2⟩
theorem Okl.cut {l : List Vl} {c d : Nat} (h : Okl l c d) (k : Nat) : Okl (l.take k) (szL (l.take k)) d ∧ Okl (l.drop k) (szL (l.drop k)) d ∧ szL (l.take k) + szL (l.drop k) ≤ c := by
  refine Okl.split (l := l.take k) (m := l.drop k) ?_
  rw [List.take_append_drop]
  exact h
theorem Okl.rev {l : List Vl} {c d : Nat} (h : Okl l c d) : Okl l.reverse c d := by
  have e : ∀ l : List Vl, szL l.reverse = szL l ∧ depL l.reverse = depL l := by
    intro l
    induction l with
    | nil => exact ⟨rfl, rfl⟩
    | cons a r ih => rw [List.reverse_cons, szL_app, depL_app, ih.1, ih.2]; simp only [szL, depL]; omega
  refine ⟨?_, by rw [(e l).1]; exact h.s1, by rw [(e l).2]; exact h.d1⟩
  have := lfL_iff.mp h.l1
  exact lfL_iff.mpr fun x hx => this x (List.mem_reverse.mp hx)
theorem Okl.rep {l : List Vl} {c d : Nat} (h : Okl l c d) : ∀ (k : Nat), Okl (List.replicate k l).flatten (k * c) d
  | 0 => ⟨rfl, by simp [szL], by simp [depL]⟩
  | k + 1 => by
    rw [List.replicate_succ, List.flatten_cons]
    have q := h.app (Okl.rep h k)
    refine q.mono ?_ (by omega)
    rw [Nat.succ_mul]; omega
theorem mul_tup {l : List Vl} {k : Int} {M : Mm} (h1 : 2 ≤ k) (h2 : k ≤ 1000) (hl : l.length ≤ 1000) : mulV true (.tup l) (.int k) M = .ok (.tup (List.replicate k.toNat l).flatten) M := by
  simp only [mulV, rd_tup, rd_int]
  by_cases h : l = []
  · rw [if_pos (.inl ⟨h, by omega, by omega⟩)]
  · rw [if_pos (.inr ⟨h, h1, h2, hl⟩)]
def nthS : Nat → Ss → S
  | 0, .cons s _ => s
  | n + 1, .cons _ r => nthS n r
  | _, .nil => .pass
def dropS : Nat → Ss → Ss
  | 0, s => s
  | n + 1, .cons _ r => dropS n r
  | _ + 1, .nil => .nil
/-- how long the wide values are -/
def wz : Nat → Nat
  | 0 => 60
  | k + 1 => 3 * wz k + 66
theorem wz_le {k q : Nat} (h : k ≤ q) : wz k ≤ wz q := by
  induction h with
  | refl => exact Nat.le_refl _
  | step _ ih => simp only [wz]; omega
section
variable (kl : Kls) {T : Tbl} (tD : T "_law_draw" = some f__law_draw) (tP : T "_law_pick" = some f__law_pick) (tO : T "_law_odd" = some f__law_odd)
include tD tP tO
theorem bent_rest (n : Nat) (B : Bag) (hB : B.Ok) (X : Mm) (t : List Nat) (l : List (Nat × Nat)) (ht : 0 < t.length) (ht2 : t.length < 100) (s : Nat) (hs : s < 100) (f : List Way) (hf : f.length ≤ 3) (c d : Nat) (hw : Okl (f.map wv) c d) :
    ∃ (v : Vl) (B' : Bag), B'.Ok ∧ Okv v (4 * c + 15000) (d + 30) ∧
      evSs kl (evCall kl T (n + 4)) (dropS 2 f__law_bent.body) [some (.ref 1), some (netV t l), some (wv (.mk s f)), some (.int s), some (.tup (f.map wv)), none, none, none, none, none, none, none] (bgm B X) = .ret v (bgm B' X) := by
  have sl : PySem.sizeLine = 16777216 := by decide
  have p64 : (Int.natAbs 10 < 2 ^ 64) = True := eq_true (by decide)
  obtain ⟨j, B1, b1, hj, e1⟩ := draw_n kl tD (n + 3) B hB X 9 (by decide) (by decide)
  have sn : Okv (.int s) 50 0 := Okv.nat (by omega)
  simp only [f__law_bent, dropS]
  by_cases c3 : j < 3
  · obtain ⟨k, B2, b2, hk, e2⟩ := draw_n kl tD (n + 3) B1 b1 X t.length (by omega) (by omega)
    let L : List Vl := [.int t.length, .int (-1), .bl true, .bl false, .non, .str (Str.ofString "0"), .tup [.int 0], .int k, .int (10 ^ Int.toNat 20)]
    have hL : ∀ v ∈ L, Okv v 55 1 := by
      have h : ([.int (-1), .bl true, .bl false, .non, .str (Str.ofString "0"), .tup [.int 0], .int (10 ^ Int.toNat 20)] : List Vl).all (fun v => lf v && decide (sz v ≤ 55) && decide (dep v ≤ 1)) = true := by decide +kernel
      intro v hv
      by_cases q : v = .int t.length ∨ v = .int k
      · rcases q with rfl | rfl
        · exact (Okv.nat (by omega)).mono (by decide) (by decide)
        · exact (Okv.nat (by omega)).mono (by decide) (by decide)
      · have := List.all_eq_true.mp h v (by
          simp only [L, List.mem_cons, List.not_mem_nil, or_false] at hv ⊢
          simp only [not_or] at q
          rcases hv with h | h | h | h | h | h | h | h | h <;> simp_all)
        simp only [Bool.and_eq_true, decide_eq_true_eq] at this
        exact ⟨this.1.1, this.1.2, this.2⟩
    obtain ⟨v, B3, b3, hv, e3⟩ := pickR_ok kl tD tP (n + 2) B2 b2 X L (pureRL_iff.mpr fun v hv => (hL v hv).R) (by simp [L]) (by simp [L])
    refine ⟨.tup [v, .tup (f.map wv)], B3, b3, ((hL v hv).t2 hw.tup).mono (by omega) (by omega), ?_⟩
    simp only [L] at e3
    have c3' : ((j : Int) < 3) = True := eq_true (by omega)
    simp_all_arith! [e1, c3', e2, p64, e3]
  have c3' : ((j : Int) < 3) = False := eq_false (by omega)
  by_cases c5 : j < 5
  · obtain ⟨v1, B2, b2, h1, e2⟩ := odd_ok kl tD tP tO (n + 1) B1 b1 X
    obtain ⟨k1, B3, b3, hk1, e3⟩ := draw_n kl tD (n + 3) B2 b2 X t.length (by omega) (by omega)
    obtain ⟨k2, B4, b4, hk2, e4⟩ := draw_n kl tD (n + 3) B3 b3 X t.length (by omega) (by omega)
    let L : List Vl := [v1, .tup [.int k1, .tup []], .tup [.int k2, .tup [.tup [.int 0, .tup []]]]]
    have hL : ∀ v ∈ L, Okv v 200 5 := by
      intro v hv
      simp only [L, List.mem_cons, List.not_mem_nil, or_false] at hv
      rcases hv with rfl | rfl | rfl
      · exact h1.mono (by decide) (by decide)
      · exact ((Okv.nat (by omega)).t2 Okv.t0).mono (by decide) (by decide)
      · exact ((Okv.nat (by omega)).t2 (Okv.t1 ((Okv.nat (n := 0) (by decide)).t2 Okv.t0))).mono (by decide) (by decide)
    obtain ⟨v, B5, b5, hv, e5⟩ := pickR_ok kl tD tP (n + 2) B4 b4 X L (pureRL_iff.mpr fun v hv => (hL v hv).R) (by simp [L]) (by simp [L])
    obtain ⟨q, B6, b6, hq, e6⟩ := draw_n kl tD (n + 3) B5 b5 X ((f.length : Int) + 1) (by omega) (by omega)
    have cu := hw.cut q
    refine ⟨.tup [.int s, .tup ((f.map wv).take q ++ (v :: (f.map wv).drop q))], B6, b6, ?_, ?_⟩
    · have z := cu.1.app ((Okl.one (hL v hv)).app cu.2.1)
      have z2 := (sn.t2 z.tup)
      refine z2.mono ?_ ?_
      · have := cu.2.2
        omega
      · omega
    · simp only [L] at e5
      have c5' : ((j : Int) < 5) = True := eq_true (by omega)
      have l1 : ((List.take q (f.map wv)).length + 1 ≤ PySem.sizeLine) = True := eq_true (by rw [List.length_take, List.length_map]; omega)
      have l2 : ((List.take q (f.map wv)).length + (1 + (List.drop q (f.map wv)).length) ≤ PySem.sizeLine) = True := eq_true (by rw [List.length_take, List.length_drop, List.length_map]; omega)
      have vv : varV (some v) = some v := varV_R (hL v hv).R
      simp_all_arith! [e1, c3', c5', e2, e3, e4, e5, e6, vv, l1, l2]
  have c5' : ((j : Int) < 5) = False := eq_false (by omega)
  by_cases c55 : j = 5
  · obtain ⟨v1, B2, b2, h1, e2⟩ := odd_ok kl tD tP tO (n + 1) B1 b1 X
    let L : List Vl := [.lst [.int s, .tup (f.map wv)], .tup [.int s], .tup [.int s, .tup (f.map wv), .tup []], v1, .tup (f.map wv)]
    have hL : ∀ v ∈ L, Okv v (c + 200) (d + 5) := by
      intro v hv
      simp only [L, List.mem_cons, List.not_mem_nil, or_false] at hv
      rcases hv with rfl | rfl | rfl | rfl | rfl
      · exact (sn.l2 hw.tup).mono (by omega) (by omega)
      · exact sn.t1.mono (by omega) (by omega)
      · exact (sn.t3 hw.tup Okv.t0).mono (by omega) (by omega)
      · exact h1.mono (by omega) (by omega)
      · exact hw.tup.mono (by omega) (by omega)
    obtain ⟨v, B3, b3, hv, e3⟩ := pickR_ok kl tD tP (n + 2) B2 b2 X L (pureRL_iff.mpr fun v hv => (hL v hv).R) (by simp [L]) (by simp [L])
    refine ⟨v, B3, b3, (hL v hv).mono (by omega) (by omega), ?_⟩
    have c55' : ((j : Int) = 5) = True := eq_true (by omega)
    simp only [L] at e3
    simp_all_arith! [e1, c3', c5', c55', e2, e3]
  have c55' : ((j : Int) = 5) = False := eq_false (by omega)
  by_cases c6 : j = 6
  · have m2 := fun M => mul_tup (l := f.map wv) (k := 2) (M := M) (by decide) (by decide) (by rw [List.length_map]; omega)
    have m4 := fun M => mul_tup (l := (f.map wv).take 1) (k := 4) (M := M) (by decide) (by decide) (by rw [List.length_take, List.length_map]; omega)
    let L : List Vl := [.lst (f.map wv), .tup (List.replicate (Int.toNat 2) (f.map wv)).flatten, .tup (f.map wv).reverse, .tup (List.replicate (Int.toNat 4) ((f.map wv).take 1)).flatten, .non, .dic]
    have hL : ∀ v ∈ L, Okv v (4 * c + 200) (d + 5) := by
      intro v hv
      simp only [L, List.mem_cons, List.not_mem_nil, or_false] at hv
      have cu := hw.cut 1
      rcases hv with rfl | rfl | rfl | rfl | rfl | rfl
      · exact hw.lst.mono (by omega) (by omega)
      · exact (hw.rep (Int.toNat 2)).tup.mono (by have : Int.toNat 2 = 2 := rfl; rw [this]; omega) (by omega)
      · exact hw.rev.tup.mono (by omega) (by omega)
      · exact (cu.1.rep (Int.toNat 4)).tup.mono (by have : Int.toNat 4 = 4 := rfl; rw [this]; omega) (by omega)
      · exact ⟨rfl, by simp only [sz]; omega, by simp [dep]⟩
      · exact ⟨rfl, by simp only [sz]; omega, by simp [dep]⟩
    obtain ⟨v, B3, b3, hv, e3⟩ := pickR_ok kl tD tP (n + 2) B1 b1 X L (pureRL_iff.mpr fun v hv => (hL v hv).R) (by simp [L]) (by simp [L])
    refine ⟨.tup [.int s, v], B3, b3, (sn.t2 (hL v hv)).mono (by omega) (by omega), ?_⟩
    have c6' : ((j : Int) = 6) = True := eq_true (by omega)
    have z1 := fun l : List Vl => cutL_take l 1
    simp only [L] at e3
    have t1 : cutL (f.map wv) none (some 1) = (f.map wv).take 1 := cutL_take (f.map wv) 1
    simp_all_arith! [e1, c3', c5', c55', c6', ↓m2, t1, ↓m4, e3]
  have c6' : ((j : Int) = 6) = False := eq_false (by omega)
  let σ := fun (o9 o10 o11 : Option Vl) => [some (.ref 1), some (netV t l), some (wv (.mk s f)), some (.int s), some (.tup (f.map wv)), none, some (.int t.length), some (.int j), none, o9, o10, o11]
  by_cases c7 : j = 7
  · let L : List Vl := [.int 2, .int 3, .int 4, .int 12, .int 13]
    obtain ⟨v, B2, b2, hv, e2⟩ := pickR_ok kl tD tP (n + 2) B1 b1 X L rfl (by simp [L]) (by simp [L])
    obtain ⟨q, hq, rfl⟩ : ∃ q : Nat, q ≤ 13 ∧ v = .int q := by
      simp only [L, List.mem_cons, List.not_mem_nil, or_false] at hv
      rcases hv with rfl | rfl | rfl | rfl | rfl
      · exact ⟨2, by decide, rfl⟩
      · exact ⟨3, by decide, rfl⟩
      · exact ⟨4, by decide, rfl⟩
      · exact ⟨12, by decide, rfl⟩
      · exact ⟨13, by decide, rfl⟩
    let w0 : Vl := .tup [.int 0, .tup []]
    have loop : ∃ (v : Vl) (B' : Bag) (o11 : Option Vl), B'.Ok ∧ Okv v (c + 60 + 62 * q) (d + 2 + 2 * q) ∧ evS kl (evCall kl T (n + 4)) f__law_bent_l2 (σ (some (.tup [.int s, .tup (f.map wv)])) (some w0) none) (bgm B1 X) = .nx (σ (some v) (some w0) o11) (bgm B' X) := by
      have rt : rngOk (q : Int) := rngOk_nat (by omega)
      simp only [L] at e2
      have e0 : evS kl (evCall kl T (n + 4)) f__law_bent_l2 (σ (some (.tup [.int s, .tup (f.map wv)])) (some w0) none) (bgm B1 X) = forL (fun x σ M => bindT (.nm 11) x σ M) (fun σ M => evSs kl (evCall kl T (n + 4)) f__law_bent_b2 σ M) [] ((List.range q).map iv) (σ (some (.tup [.int s, .tup (f.map wv)])) (some w0) none) (bgm B2 X) := by
        simp only [f__law_bent_l2, σ]
        simp_all_arith! [e2, rt, rng_iv]
      rw [e0]
      refine forL_inv (Q := fun z => ∃ (v : Vl) (B' : Bag) (o11 : Option Vl), B'.Ok ∧ Okv v (c + 60 + 62 * q) (d + 2 + 2 * q) ∧ z = .nx (σ (some v) (some w0) o11) (bgm B' X))
        (fun k σ' M' => ∃ (v : Vl) (B' : Bag) (o11 : Option Vl), B'.Ok ∧ Okv v (c + 60 + 62 * k) (d + 2 + 2 * k) ∧ σ' = σ (some v) (some w0) o11 ∧ M' = bgm B' X) ?_ (fun _ _ _ _ _ => trivial) ?_ ?_
      · exact ⟨_, B2, none, b2, (sn.t2 hw.tup).mono (by omega) (by omega), rfl, rfl⟩
      · rintro k hk _ _ ⟨v, B3, o11, b3, h3, rfl, rfl⟩
        obtain ⟨k1, B4, b4, hk1, e4⟩ := draw_n kl tD (n + 3) B3 b3 X t.length (by omega) (by omega)
        refine ⟨_, rfl, ?_⟩
        have res : evSs kl (evCall kl T (n + 4)) f__law_bent_b2 (σ (some v) (some w0) (some (((List.range q).map iv)[k]))) (bgm B3 X) = .nx (σ (some (.tup [.int k1, .tup [v]])) (some w0) (some (((List.range q).map iv)[k]))) (bgm B4 X) := by
          have vv := varV_R h3.R
          simp only [f__law_bent_b2, σ]
          simp_all_arith! [e4, vv]
        show Stp _ _ (evSs kl (evCall kl T (n + 4)) f__law_bent_b2 (σ (some v) (some w0) (some (((List.range q).map iv)[k]))) (bgm B3 X))
        rw [res]
        exact ⟨_, B4, _, b4, ((Okv.nat (by omega)).t2 h3.t1).mono (by omega) (by omega), rfl, rfl⟩
      · rintro _ _ ⟨v, B3, o11, b3, h3, rfl, rfl⟩
        rw [List.length_map, List.length_range] at h3
        exact ⟨v, B3, o11, b3, h3, rfl⟩
    obtain ⟨v, B3, o11, b3, h3, e3⟩ := loop
    refine ⟨v, B3, b3, h3.mono (by omega) (by omega), ?_⟩
    have c7' : ((j : Int) = 7) = True := eq_true (by omega)
    have vv := varV_R h3.R
    simp only [σ, w0] at e3
    simp_all_arith! [e1, c3', c5', c55', c6', c7', e3, vv]
  have c7' : ((j : Int) = 7) = False := eq_false (by omega)
  obtain ⟨q, B2, b2, hq, e2⟩ := draw_n kl tD (n + 3) B1 b1 X 3 (by decide) (by decide)
  let w9 : Vl := .tup [.int s, .tup (f.map wv)]
  have loop : ∃ (v : Vl) (o11 : Option Vl), Okv v (wz (2 + q)) (2 + 2 * (2 + q)) ∧ evS kl (evCall kl T (n + 4)) f__law_bent_l1 (σ (some w9) (some (.tup [.int 0, .tup []])) none) (bgm B1 X) = .nx (σ (some w9) (some v) o11) (bgm B2 X) := by
    have rt : rngOk (2 + (q : Int)) := by unfold rngOk; omega
    have rg : rngV 0 (2 + (q : Int)) = (List.range (2 + q)).map iv := by
      have := rng_iv (2 + q)
      rw [← this]
      congr 1
    have e0 : evS kl (evCall kl T (n + 4)) f__law_bent_l1 (σ (some w9) (some (.tup [.int 0, .tup []])) none) (bgm B1 X) = forL (fun x σ M => bindT (.nm 11) x σ M) (fun σ M => evSs kl (evCall kl T (n + 4)) f__law_bent_b1 σ M) [] ((List.range (2 + q)).map iv) (σ (some w9) (some (.tup [.int 0, .tup []])) none) (bgm B2 X) := by
      simp only [f__law_bent_l1, σ]
      simp_all_arith! [e2, rt, rg]
    rw [e0]
    refine forL_inv (Q := fun z => ∃ (v : Vl) (o11 : Option Vl), Okv v (wz (2 + q)) (2 + 2 * (2 + q)) ∧ z = .nx (σ (some w9) (some v) o11) (bgm B2 X))
      (fun k σ' M' => ∃ (v : Vl) (o11 : Option Vl), Okv v (wz k) (2 + 2 * k) ∧ σ' = σ (some w9) (some v) o11 ∧ M' = bgm B2 X) ?_ (fun _ _ _ _ _ => trivial) ?_ ?_
    · exact ⟨_, none, ((Okv.nat (n := 0) (by decide)).t2 Okv.t0).mono (by decide) (by decide), rfl, rfl⟩
    · rintro k hk _ _ ⟨v, o11, h3, rfl, rfl⟩
      refine ⟨_, rfl, ?_⟩
      have m3 := fun M => mul_tup (l := [v]) (k := 3) (M := M) (by decide) (by decide) (by simp)
      have res : evSs kl (evCall kl T (n + 4)) f__law_bent_b1 (σ (some w9) (some v) (some (((List.range (2 + q)).map iv)[k]))) (bgm B2 X) = .nx (σ (some w9) (some (.tup [.int 0, .tup (List.replicate (Int.toNat 3) [v]).flatten])) (some (((List.range (2 + q)).map iv)[k]))) (bgm B2 X) := by
        have vv := varV_R h3.R
        simp only [f__law_bent_b1, σ]
        simp_all_arith! [vv, ↓m3]
      show Stp _ _ (evSs kl (evCall kl T (n + 4)) f__law_bent_b1 (σ (some w9) (some v) (some (((List.range (2 + q)).map iv)[k]))) (bgm B2 X))
      rw [res]
      refine ⟨_, _, ((Okv.nat (n := 0) (by decide)).t2 ((Okl.one h3).rep (Int.toNat 3)).tup).mono ?_ (by omega), rfl, rfl⟩
      have : Int.toNat 3 = 3 := rfl
      rw [this]
      simp only [wz]
      omega
    · rintro _ _ ⟨v, o11, h3, rfl, rfl⟩
      rw [List.length_map, List.length_range] at h3
      exact ⟨v, o11, h3, rfl⟩
  obtain ⟨v, o11, h3, e3⟩ := loop
  have w4 : wz (2 + q) ≤ wz 4 := wz_le (by omega)
  have w4' : wz 4 = 7500 := by decide
  refine ⟨.tup [.int s, .tup [v]], B2, b2, (sn.t2 h3.t1).mono (by omega) (by omega), ?_⟩
  have vv := varV_R h3.R
  simp only [σ, w9] at e3
  simp_all_arith! [e1, c3', c5', c55', c6', c7', e3, vv]
end
section
variable (kl : Kls) {T : Tbl} (tD : T "_law_draw" = some f__law_draw) (tP : T "_law_pick" = some f__law_pick) (tO : T "_law_odd" = some f__law_odd) (tB : T "_law_bent" = some f__law_bent)
include tD tP tO tB
theorem bent_ok (n : Nat) (X : Mm) (t : List Nat) (l : List (Nat × Nat)) (ht : 0 < t.length) (ht2 : t.length < 100) : ∀ (d : Nat) (w : Way), WayOk t.length l d w → ∀ (B : Bag) (hB : B.Ok) (c e : Nat), Okl (w.f.map wv) c e →
    ∃ (v : Vl) (B' : Bag), B'.Ok ∧ Okv v (4 * c + 15100 + 60 * d) (e + 31) ∧ evCall kl T (n + d + 5) "_law_bent" [.ref 1, netV t l, wv w] (bgm B X) = .ok v (bgm B' X) := by
  have sl : PySem.sizeLine = 16777216 := by decide
  have hb : f__law_bent.body = .cons (nthS 0 f__law_bent.body) (.cons (nthS 1 f__law_bent.body) (dropS 2 f__law_bent.body)) := rfl
  intro d
  induction d with
  | zero =>
    rintro ⟨s, f⟩ hw B hB c e hc
    have hf : f = [] := hw.2
    subst hf
    have hs : s < t.length := hw.1
    obtain ⟨v, B', b1, h1, e1⟩ := bent_rest kl tD tP tO n B hB X t l ht ht2 s (by omega) [] (by simp) c e hc
    refine ⟨v, B', b1, h1.mono (by omega) (by omega), ?_⟩
    rw [call_of tB rfl, hb]
    have z : startS f__law_bent [.ref 1, netV t l, wv (.mk s [])] = [some (.ref 1), some (netV t l), some (wv (.mk s [])), none, none, none, none, none, none, none, none, none] := rfl
    rw [z]
    have fz : f__law_bent.fz = true := rfl
    rw [fz]
    generalize dropS 2 f__law_bent.body = R at *
    simp only [nthS, f__law_bent, wv_mk, List.map_nil] at e1 ⊢
    simp_all_arith! [iv, e1]
    exact leave_bgm0 (below_R _ h1.R)
  | succ d ih =>
    rintro ⟨s, f⟩ hw B hB c e hc
    have hs : s < t.length := hw.1
    have h3 : f.length ≤ 3 := hw.2.1
    have hc : Okl (f.map wv) c e := hc
    have z : startS f__law_bent [.ref 1, netV t l, wv (.mk s f)] = [some (.ref 1), some (netV t l), some (wv (.mk s f)), none, none, none, none, none, none, none, none, none] := rfl
    have fz : f__law_bent.fz = true := rfl
    obtain ⟨N, hN⟩ : ∃ N, N = n + d := ⟨_, rfl⟩
    rw [← hN] at ih
    have hN2 : n + (d + 1) + 5 = (N + 5) + 1 := by omega
    rw [hN2]
    rw [call_of tB rfl, hb, z, fz]
    have rest : ∀ (B : Bag), B.Ok → ∃ (v : Vl) (B' : Bag), B'.Ok ∧ Okv v (4 * c + 15000) (e + 30) ∧
      evSs kl (evCall kl T (N + 5)) (dropS 2 f__law_bent.body) [some (.ref 1), some (netV t l), some (wv (.mk s f)), some (.int s), some (.tup (f.map wv)), none, none, none, none, none, none, none] (bgm B X) = .ret v (bgm B' X) := fun B hB => bent_rest kl tD tP tO (N + 1) B hB X t l ht ht2 s (by omega) f h3 c e hc
    clear hN hN2
    generalize dropS 2 f__law_bent.body = R at *
    simp only [nthS, f__law_bent, wv_mk] at rest ⊢
    by_cases h0 : f = []
    · subst h0
      obtain ⟨v, B', b1, h1, e1⟩ := rest B hB
      refine ⟨v, B', b1, h1.mono (by omega) (by omega), ?_⟩
      simp only [List.map_nil] at e1 ⊢
      simp_all_arith! [iv, e1]
      exact leave_bgm0 (below_R _ h1.R)
    · have ne : eqP (.tup (f.map wv)) (.tup []) = some false := by
        rw [eqP_tnil (pure_wvm _), List.isEmpty_map]
        cases q : f with
        | nil => exact absurd q h0
        | cons => rfl
      obtain ⟨j, B1, b1, hj, e1⟩ := draw_n kl tD (N + 4) B hB X 2 (by decide) (by decide)
      by_cases hj0 : j = 0
      · subst hj0
        have fl : 0 < f.length := List.length_pos_iff.mpr h0
        obtain ⟨q, B2, b2, hq, e2⟩ := draw_n kl tD (N + 4) B1 b1 X f.length (by omega) (by omega)
        have hq2 : q < f.length := by omega
        have hm : f[q] ∈ f := List.getElem_mem hq2
        have gq : f[q]? = some f[q] := List.getElem?_eq_getElem hq2
        have dq : (f.map wv).drop q = wv f[q] :: (f.map wv).drop (q + 1) := by
          rw [← List.map_drop, List.drop_eq_getElem_cons hq2, List.map_cons, List.map_drop]
        have cu := hc.cut q
        rw [dq] at cu
        have cs := Okl.split (l := [wv f[q]]) (m := (f.map wv).drop (q + 1)) cu.2.1
        have ck : Okl (f[q].f.map wv) (sz (wv f[q])) (dep (wv f[q]) - 2) := by
          have h1 := cs.1.l1
          have a1 : lf (wv f[q]) = true := by simpa [lfL] using h1
          rw [wv_def] at a1 ⊢
          simp only [lf, lfL, Bool.and_true, Bool.and_eq_true] at a1
          exact ⟨a1.2, by simp only [sz, szL]; omega, by simp only [dep, depL]; omega⟩
        have dk : dep (wv f[q]) ≤ e := by have := cs.1.d1; simp only [depL] at this; omega
        obtain ⟨v, B3, b3, h4, e3⟩ := ih f[q] (hw.2.2.2 _ hm).2 B2 b2 _ _ ck
        have sk : szL ((f.map wv).take q) + (sz (wv f[q]) + 2 + szL ((f.map wv).drop (q + 1))) ≤ c := by have := cu.2.2; simpa only [szL] using this
        have dk2 : 2 ≤ dep (wv f[q]) := by rw [wv_def]; simp only [dep, depL]; omega
        have sn : Okv (.int s) 50 0 := Okv.nat (by omega)
        refine ⟨.tup [.int s, .tup ((f.map wv).take q ++ (v :: (f.map wv).drop (q + 1)))], B3, b3, ?_, ?_⟩
        · refine (sn.t2 (cu.1.app ((Okl.one h4).app cs.2.1)).tup).mono ?_ ?_
          · omega
          · omega
        · have l1 : ((List.take q (f.map wv)).length + 1 ≤ PySem.sizeLine) = True := eq_true (by rw [List.length_take, List.length_map]; omega)
          have l2 : ((List.take q (f.map wv)).length + (1 + (List.drop (q + 1) (f.map wv)).length) ≤ PySem.sizeLine) = True := eq_true (by rw [List.length_take, List.length_drop, List.length_map]; omega)
          simp_all_arith! [iv, ne, e1, e2, place_nat, List.getElem?_map, gq, hq2, e3, l1, l2]
          exact leave_bgm0 (below_R _ ((sn.t2 (cu.1.app ((Okl.one h4).app cs.2.1)).tup)).R)
      · obtain ⟨v, B', b1', h1, e2⟩ := rest B1 b1
        refine ⟨v, B', b1', h1.mono (by omega) (by omega), ?_⟩
        have hj0' : ((j : Int) = 0) = False := eq_false (by omega)
        simp_all_arith! [iv, ne, e1, hj0', e2]
        exact leave_bgm0 (below_R _ h1.R)
end
end Sx
end

section
set_option Elab.async false
set_option linter.all false
set_option maxRecDepth 100000
/-! the law k80: trains go elsewhere -/
namespace Sx.K80
open Sg Sx
open PySem (Str PyData)
local macro_rules
| `(tactic| simp_arith [$ls,*]) => `(tactic| simp (config := { decide := false, implicitDefEqProofs := false }) only [↓e_var, ↓e_cst, ↓e_glb, ↓e_tup,
    ↓e_lst, ↓e_dct, ↓e_dic, ↓e_bin, ↓e_neg, ↓e_not, ↓e_and, ↓e_or, ↓e_cmp, ↓e_cmp2, ↓e_ite, ↓e_idx, ↓e_sl, ↓e_rev, ↓e_comp, ↓e_call, ↓e_callk, ↓e_bi,
    ↓e_src, ↓e_meth, ↓e_xfld, ↓e_xisi, ↓es_nil, ↓es_cons, ↓cs_nil, ↓cs_one, ↓oe_no, ↓oe_so, ↓sr_val, ↓sr_enum, ↓sr_zip, ↓sr_rng1, ↓sr_rng2, ↓s_expr,
    ↓s_set, ↓s_setT, ↓s_par, ↓s_setI, ↓s_augI, ↓s_augN, ↓s_ret, ↓s_retN, ↓s_ife, ↓s_for, ↓s_raise, ↓s_try, ↓s_pass, ↓s_brk, ↓s_cnt, ↓ss_nil, ↓ss_cons,
    ↓hs_nil, ↓hs_cons, ↓hs_none, evKs, bindI_ok, bindI_exc, bindI_bad, thnI_ok, thnI_exc, thnI_bad, sthnI_nx, sthnI_brk, sthnI_cnt, sthnI_ret,
    sthnI_exc, sthnI_bad, R.of_some, R.of_none, R.bind_ok, R.thn_ok, RS.thn_nx, List.getElem?_cons_zero, List.getElem?_cons_succ, List.set_cons_zero,
    List.set_cons_succ, Option.bind_some, Option.bind_none, Option.map_some, Option.map_none, id, varV_non, varV_bl, varV_int, varV_str, varV_tup,
    varV_lst, varV_ref, varV_scr, varV_dic, rd_dic, rd_non, rd_bl, rd_int, rd_str, rd_tup, rd_lst, rd_scr, seq_tup, seq_lst, seqLst_lst, tru_bl,
    tru_non, mkL_f, mkL_c, startS_def, List.map_cons, List.map_nil, List.cons_append, List.nil_append, List.replicate_succ, List.replicate_zero,
    Nat.sub_self, Nat.reduceSub, Nat.reduceAdd, bin2, addV, cmpV, eqR_P, eqP_int, inR_P, pureL_ints, pureL_nats, pureL_nil, pureL_cons, Bool.and_true,
    Bool.true_and, List.isEmpty_cons, List.isEmpty_nil, Bool.not_false, Bool.not_true, inP_ints, inP_nats, eqP_lnil, eqP_tnil, intsOf_map, rd_b1,
    rd_b2, pureV, setIV, augGet, methV, methL, setL, bindT, wipeS, List.foldr_cons, List.foldr_nil, setAll, intOf, slV, cutL_take, cutL_drop,
    cutL_drop1, cutL_take1, ordV, isNon, biV, keyOf_str, keyOf_int, lookK_cons, lookK_nil, idxV, rd_r, cellL, lt_line, getD_z, getD_s, Int.ofNat_inj,
    cast0, cast1, cast0', List.dropLast_concat, last_app, last_app', last_map, Nat.add_sub_cancel, Nat.zero_add, List.map_append, Int.ofNat_lt,
    Int.ofNat_le, Nat.reduceLT, List.zip_cons_cons, List.zip_nil_left, List.zip_nil_right, List.foldl_cons, List.foldl_nil, List.any_cons,
    List.any_nil, decide_true, decide_false, Bool.or_true, Bool.true_or, Bool.or_false, Bool.false_or, Bool.false_eq_true, place_zero, place_1,
    place_2, place_3, place_4, List.length_cons, List.length_map, List.length_append, List.length_nil, Option.some.injEq, Sum.inr.injEq, Sum.inl.injEq,
    Int.reduceLT, Int.reduceLE, true_and, and_true, and_self, List.isEmpty_map, reduceIte, reduceCtorEq, if_true, if_false, $ls,*])
local macro_rules
  | `(tactic| simp_all_arith [$ls,*]) => `(tactic| simp_arith [bgm_len, bgm_app, bgm_get0, bgm_get1, bgm_get2, bgm_set0, bgm_set1, bgm_set2, List.append_assoc, Nat.add_assoc, $ls,*])
local macro_rules
  | `(tactic| simp_arith! [$ls,*]) => `(tactic| simp_arith [varV_net, rd_net, get_app, get_app0, set_app, set_app0, List.append_assoc, Nat.add_assoc, $ls,*])
local macro_rules
  | `(tactic| simp_all_arith! [$ls,*]) => `(tactic| simp_arith! [varV_wv, rd_wv, varV_st, rd_st, bgm_len, bgm_app, bgm_get0, bgm_get1, bgm_get2, bgm_set0, bgm_set1, bgm_set2, $ls,*])
def n_is_integer : List Str := ["value"]
def n_is_number_below : List Str := ["value", "many"]
def n_is_built : List Str := ["value", "further", "own"]
def n_add_rows : List Str := ["rows", "way", "above", "ahead", "earlier", "own"]
def n_rows_of : List Str := ["way", "rows"]
def n_pair_error : List Str := ["net", "rows", "number", "row"]
def n_way_error : List Str := ["net", "value", "rows"]
def n_longest : List Str := ["way", "own"]
def n_wanted : List Str := ["net", "standing", "counts", "found", "tracks", "way", "further", "station"]
def n_closed_from : List Str := ["table", "station", "row", "at", "other"]
def n_closure : List Str := ["net", "standing", "station"]
def f_look_at_way : Fn := { np := 2, nl := 3, fz := true, body := (.cons (.set 2 (.call "way_error" (.cons (.var 0) (.cons (.var 1) .nil)))) (.cons (.ife (.cmp .nisn (.var 2) (.cst .non)) (.cons (.raise "BadWay" (.cons (.var 2) .nil)) .nil) .nil) .nil)) }
def n_look_at_way : List Str := ["net", "way", "error"]
def f_look_at_station : Fn := { np := 3, nl := 4, fz := true, body := (.cons (.set 3 (.call "closure" (.cons (.var 0) (.cons (.var 1) (.cons (.var 2) .nil))))) (.cons (.ife (.cmp .ne (.var 3) (.tup .nil)) (.cons (.raise "Refused" (.cons (.var 3) .nil)) .nil) .nil) .nil)) }
def n_look_at_station : List Str := ["net", "standing", "station", "found"]
def f_rewayed : Fn := { np := 4, nl := 5, fz := true, body := (.cons (.ife (.or (.not (.cmp2 .le .lt (.cst (.int 0)) (.var 2) (.bi .len (.cons (.var 1) .nil)))) (.cmp .isn (.idx (.var 1) (.var 2)) (.cst .non))) (.cons (.raise "Unfit" .nil) .nil) .nil) (.cons (.expr (.call "look_at_way" (.cons (.var 0) (.cons (.var 3) .nil)))) (.cons (.ife (.cmp .ne (.idx (.var 3) (.cst (.int 0))) (.idx (.idx (.var 1) (.var 2)) (.cst (.int 0)))) (.cons (.raise "Unfit" .nil) .nil) .nil) (.cons (.set 4 (.bin .add true (.bin .add true (.sl true (.var 1) .no (.so (.var 2))) (.tup (.cons (.var 3) .nil))) (.sl true (.var 1) (.so (.bin .add true (.var 2) (.cst (.int 1)))) .no))) (.cons (.expr (.call "look_at_station" (.cons (.var 0) (.cons (.var 4) (.cons (.idx (.var 3) (.cst (.int 0))) .nil))))) (.cons (.ret (.var 4)) .nil)))))) }
def n_rewayed : List Str := ["net", "standing", "train", "way", "found"]
def n__law_bag : List Str := ["script", "cells", "stirred", "cell"]
def n__law_draw : List Str := ["bag", "many", "far", "cell", "mixed"]
def n__law_pick : List Str := ["bag", "items"]
def n__law_mixed : List Str := ["bag", "items", "left", "found"]
def n__law_is_whole : List Str := ["value", "least", "most"]
def n__law_odd : List Str := ["bag"]
def n__law_net : List Str := ["bag", "many", "sort", "lines", "a", "b", "is_on", "station"]
def n__law_has_round : List Str := ["net", "station", "off", "seen", "rows", "here", "a", "b"]
def n__law_bare : List Str := ["net", "found", "station", "many", "others", "own"]
def n__law_gated : List Str := ["bag", "many", "net", "bare", "station", "own"]
def n__law_way : List Str := ["bag", "net", "station", "steps", "forks", "menu", "a", "b", "many", "found", "rest", "own"]
def n__law_counts : List Str := ["net", "standing", "found", "own", "way"]
def n__law_standing : List Str := ["bag", "net", "most", "spots", "station", "many", "found", "turn"]
def n__law_least : List Str := ["net", "standing", "station", "counts", "found", "rows", "here", "way", "new", "own"]
def n__law_is_built : List Str := ["value", "own"]
def n__law_pairs : List Str := ["way", "above", "ahead", "deep", "found", "last", "own"]
def n__law_way_slip : List Str := ["net", "value", "rows", "row", "number"]
def n__law_bent : List Str := ["bag", "net", "way", "station", "further", "spot", "many", "sort", "more", "tower", "wide", "turn"]
def f__law_rewayed_due : Fn := { np := 4, nl := 7, fz := true, body := (.cons (.ife (.or (.not (.cmp2 .le .lt (.cst (.int 0)) (.var 2) (.bi .len (.cons (.var 1) .nil)))) (.cmp .isn (.idx (.var 1) (.var 2)) (.cst .non))) (.cons (.ret (.lst true (.cons (.cst (.str (PySem.Str.ofString "Unfit"))) .nil))) .nil) .nil) (.cons (.set 4 (.call "_law_way_slip" (.cons (.var 0) (.cons (.var 3) .nil)))) (.cons (.ife (.cmp .nisn (.var 4) (.cst .non)) (.cons (.ret (.lst true (.cons (.cst (.str (PySem.Str.ofString "BadWay"))) (.cons (.var 4) .nil)))) .nil) .nil) (.cons (.ife (.cmp .ne (.idx (.idx (.var 1) (.var 2)) (.cst (.int 0))) (.idx (.var 3) (.cst (.int 0)))) (.cons (.ret (.lst true (.cons (.cst (.str (PySem.Str.ofString "Unfit"))) .nil))) .nil) .nil) (.cons (.set 5 (.bin .add true (.bin .add true (.sl true (.var 1) .no (.so (.var 2))) (.tup (.cons (.var 3) .nil))) (.sl true (.var 1) (.so (.bin .add true (.var 2) (.cst (.int 1)))) .no))) (.cons (.set 6 (.call "_law_least" (.cons (.var 0) (.cons (.var 5) (.cons (.idx (.var 3) (.cst (.int 0))) .nil))))) (.cons (.ret (.ite (.cmp .ne (.var 6) (.tup .nil)) (.lst true (.cons (.cst (.str (PySem.Str.ofString "Refused"))) (.cons (.var 6) .nil))) (.lst true (.cons (.cst (.str (PySem.Str.ofString "told"))) (.cons (.var 5) .nil))))) .nil))))))) }
def n__law_rewayed_due : List Str := ["net", "standing", "train", "way", "slip", "found", "lot"]
def f__law_heard_t1 : S := (.try_ (.cons (.ife (.var 4) (.cons (.ret (.lst true (.cons (.cst (.str (PySem.Str.ofString "told"))) (.cons (.callk "rewayed" .nil [3, 2, 1, 0] (.cons (.var 3) (.cons (.var 2) (.cons (.var 1) (.cons (.var 0) .nil))))) .nil)))) .nil) .nil) (.cons (.ret (.lst true (.cons (.cst (.str (PySem.Str.ofString "told"))) (.cons (.call "rewayed" (.cons (.var 0) (.cons (.var 1) (.cons (.var 2) (.cons (.var 3) .nil))))) .nil)))) .nil)) (.cons "BadWay" (some 5) (.cons (.ret (.ite (.xisi 5 "OfficeError") (.lst true (.cons (.cst (.str (PySem.Str.ofString "BadWay"))) (.cons (.xfld 5 "error") .nil))) (.lst true (.cons (.cst (.str (PySem.Str.ofString "other"))) .nil)))) .nil) (.cons "Unfit" (some 5) (.cons (.ret (.ite (.xisi 5 "OfficeError") (.lst true (.cons (.cst (.str (PySem.Str.ofString "Unfit"))) .nil)) (.lst true (.cons (.cst (.str (PySem.Str.ofString "other"))) .nil)))) .nil) (.cons "Refused" (some 5) (.cons (.ret (.ite (.xisi 5 "OfficeError") (.lst true (.cons (.cst (.str (PySem.Str.ofString "Refused"))) (.cons (.xfld 5 "lot") .nil))) (.lst true (.cons (.cst (.str (PySem.Str.ofString "other"))) .nil)))) .nil) .nil))))
def f__law_heard : Fn := { np := 5, nl := 6, fz := true, body := (.cons f__law_heard_t1 .nil) }
def n__law_heard : List Str := ["net", "standing", "train", "way", "is_named", "slip"]
def f__law_is_right : Fn := { np := 5, nl := 7, fz := true, body := (.cons (.par [5, 6] (.cons (.bi .repr (.cons (.lst true (.cons (.var 0) (.cons (.var 1) (.cons (.var 3) .nil)))) .nil)) (.cons (.bi .repr (.cons (.call "_law_rewayed_due" (.cons (.var 0) (.cons (.var 1) (.cons (.var 2) (.cons (.var 3) .nil))))) .nil)) .nil))) (.cons (.ife (.cmp .ne (.bi .repr (.cons (.call "_law_heard" (.cons (.var 0) (.cons (.var 1) (.cons (.var 2) (.cons (.var 3) (.cons (.var 4) .nil)))))) .nil)) (.var 6)) (.cons (.ret (.cst (.bl false))) .nil) .nil) (.cons (.ret (.and (.cmp .eq (.bi .repr (.cons (.call "_law_heard" (.cons (.var 0) (.cons (.var 1) (.cons (.var 2) (.cons (.var 3) (.cons (.cst (.bl false)) .nil)))))) .nil)) (.var 6)) (.cmp .eq (.bi .repr (.cons (.lst true (.cons (.var 0) (.cons (.var 1) (.cons (.var 3) .nil)))) .nil)) (.var 5)))) .nil))) }
def n__law_is_right : List Str := ["net", "standing", "train", "way", "is_named", "kept", "due"]
def f_law_b1 : Ss := (.cons (.set 10 (.call "_law_way" (.cons (.var 1) (.cons (.var 4) (.cons (.var 8) (.cons (.var 9) (.cons (.cst (.int 1)) .nil))))))) (.cons (.ife (.not (.call "_law_is_right" (.cons (.var 4) (.cons (.var 5) (.cons (.var 7) (.cons (.var 10) (.cons (.cmp .eq (.var 9) (.var 2)) .nil))))))) (.cons (.ret (.cst (.bl false))) .nil) .nil) .nil))
def f_law_l1 : S := (.for_ (.nm 9) (.val (.tup (.cons (.cst (.int 1)) (.cons (.cst (.int 3)) .nil)))) f_law_b1)
def f_law_b2 : Ss := (.cons (.set 8 (.call "_law_draw" (.cons (.var 1) (.cons (.var 3) .nil)))) (.cons (.ife (.and (.cmp2 .le .lt (.cst (.int 0)) (.var 7) (.var 6)) (.cmp .nisn (.idx (.var 5) (.var 7)) (.cst .non))) (.cons (.set 8 (.idx (.idx (.var 5) (.var 7)) (.cst (.int 0)))) .nil) .nil) (.cons f_law_l1 (.cons (.set 10 (.call "_law_way" (.cons (.var 1) (.cons (.var 4) (.cons (.call "_law_pick" (.cons (.var 1) (.cons (.lst true (.cons (.var 8) (.cons (.call "_law_draw" (.cons (.var 1) (.cons (.var 3) .nil))) .nil))) .nil))) (.cons (.call "_law_draw" (.cons (.var 1) (.cons (.cst (.int 4)) .nil))) (.cons (.cst (.int 1)) .nil))))))) (.cons (.ife (.not (.call "_law_is_right" (.cons (.var 4) (.cons (.var 5) (.cons (.var 7) (.cons (.var 10) (.cons (.cst (.bl false)) .nil))))))) (.cons (.ret (.cst (.bl false))) .nil) .nil) (.cons (.ife (.not (.call "_law_is_right" (.cons (.var 4) (.cons (.var 5) (.cons (.var 7) (.cons (.call "_law_bent" (.cons (.var 1) (.cons (.var 4) (.cons (.var 10) .nil)))) (.cons (.cst (.bl false)) .nil))))))) (.cons (.ret (.cst (.bl false))) .nil) .nil) .nil))))))
def f_law_l2 : S := (.for_ (.nm 7) (.val (.bin .add true (.sl true (.call "_law_mixed" (.cons (.var 1) (.cons (.src true true (.rng1 (.var 6))) .nil))) .no (.so (.cst (.int 4)))) (.lst true (.cons (.call "_law_pick" (.cons (.var 1) (.cons (.lst true (.cons (.var 6) (.cons (.neg (.cst (.int 1))) (.cons (.bin .add true (.var 6) (.cst (.int 2))) (.cons (.bin .pow true (.cst (.int 10)) (.cst (.int 9))) (.cons (.neg (.var 6)) .nil)))))) .nil))) .nil)))) f_law_b2)
def f_law_b3 : Ss := (.cons (.set 3 (.bin .add true (.cst (.int 3)) (.call "_law_draw" (.cons (.var 1) (.cons (.cst (.int 4)) .nil))))) (.cons (.set 4 (.ite (.cmp .eq (.var 2) (.cst (.int 0))) (.call "_law_gated" (.cons (.var 1) (.cons (.var 3) .nil))) (.call "_law_net" (.cons (.var 1) (.cons (.var 3) .nil))))) (.cons (.set 5 (.call "_law_standing" (.cons (.var 1) (.cons (.var 4) (.cons (.cst (.int 7)) .nil))))) (.cons (.set 6 (.bi .len (.cons (.var 5) .nil))) (.cons f_law_l2 (.cons (.ife (.not (.call "_law_is_right" (.cons (.var 4) (.cons (.var 5) (.cons (.call "_law_draw" (.cons (.var 1) (.cons (.bin .add true (.var 6) (.cst (.int 1))) .nil))) (.cons (.call "_law_odd" (.cons (.var 1) .nil)) (.cons (.cst (.bl true)) .nil))))))) (.cons (.ret (.cst (.bl false))) .nil) .nil) .nil))))))
def f_law_l3 : S := (.for_ (.nm 2) (.rng1 (.cst (.int 4))) f_law_b3)
def f_law : Fn := { np := 1, nl := 11, fz := true, body := (.cons (.set 1 (.call "_law_bag" (.cons (.var 0) .nil))) (.cons f_law_l3 (.cons (.ret (.cst (.bl true))) .nil))) }
def n_law : List Str := ["script", "bag", "turn", "many", "net", "standing", "size", "train", "station", "steps", "way"]
def tb : List (String × Fn) := [("is_integer", f_is_integer), ("is_number_below", f_is_number_below), ("is_built", f_is_built), ("add_rows", f_add_rows), ("rows_of", f_rows_of), ("pair_error", f_pair_error), ("way_error", f_way_error), ("longest", f_longest), ("wanted", f_wanted), ("closed_from", f_closed_from), ("closure", f_closure), ("look_at_way", f_look_at_way), ("look_at_station", f_look_at_station), ("rewayed", f_rewayed), ("_law_bag", f__law_bag), ("_law_draw", f__law_draw), ("_law_pick", f__law_pick), ("_law_mixed", f__law_mixed), ("_law_is_whole", f__law_is_whole), ("_law_odd", f__law_odd), ("_law_net", f__law_net), ("_law_has_round", f__law_has_round), ("_law_bare", f__law_bare), ("_law_gated", f__law_gated), ("_law_way", f__law_way), ("_law_counts", f__law_counts), ("_law_standing", f__law_standing), ("_law_least", f__law_least), ("_law_is_built", f__law_is_built), ("_law_pairs", f__law_pairs), ("_law_way_slip", f__law_way_slip), ("_law_bent", f__law_bent), ("_law_rewayed_due", f__law_rewayed_due), ("_law_heard", f__law_heard), ("_law_is_right", f__law_is_right), ("law", f_law)]
def gl : List (String × Vl) := [("MAX_CHOICES", (.int 3)), ("MAX_STEPS", (.int 12)), ("MAX_PAIRS", (.int 40))]
def xc : List (String × (Option String × List String)) := [("OfficeError", (none, ["OfficeError"])), ("Unfit", (none, ["Unfit", "OfficeError"])), ("BadWay", (some "error", ["BadWay", "OfficeError"])), ("Refused", (some "lot", ["Refused", "OfficeError"]))]
def rs : List String := ["BadWay", "Refused", "Unfit"]
def kw : List (String × List String × List Nat) := [("rewayed", ["way", "train", "standing", "net"], [3, 2, 1, 0])]
def gs : Gs := ⟨tb, gl, xc, rs, kw⟩
/-- what comes of it -/
inductive Ans where
  | unfit
  | bad (x : Vl)
  | refused (l : List Nat)
  | told (j : Nat) (v : Vl)
def ansV (st : List (Option Way)) : Ans → Vl
  | .unfit => .lst [word "Unfit"]
  | .bad x => .lst [word "BadWay", x]
  | .refused q => .lst [word "Refused", .tup (q.map iv)]
  | .told j v => .lst [word "told", .tup ((st.map ov).take j ++ (v :: (st.map ov).drop (j + 1)))]
def ansR (st : List (Option Way)) (M : Mm) : Ans → R Vl
  | .unfit => .exc "Unfit" [] M
  | .bad x => .exc "BadWay" [x] M
  | .refused q => .exc "Refused" [.tup (q.map iv)] M
  | .told j v => .ok (.tup ((st.map ov).take j ++ (v :: (st.map ov).drop (j + 1)))) M
/-- a net with a standing -/
structure Good (m : Nat) (t : List Nat) (l : List (Nat × Nat)) (st : List (Option Way)) : Prop where
  tl : t.length = m
  hm0 : 0 < m
  hm : m < 100
  tb : ∀ x ∈ t, 1 ≤ x ∧ x ≤ 10
  lo : LinesOk m l
  ok : StOk m t l 12 st
  len : st.length ≤ 100
variable {m : Nat} {t : List Nat} {l : List (Nat × Nat)} {st : List (Option Way)}
theorem WayOk.kid {m : Nat} {l : List (Nat × Nat)} {d : Nat} {w : Way} (h : WayOk m l d w) : w.f.length ≤ 3 ∧ (∀ c ∈ w.f, c.s < m) ∧ (w.f.map Way.s).Pairwise (· < ·) := by
  cases d with
  | zero => rw [h.2]; simp
  | succ d => exact ⟨h.2.1, fun c hc => (h.2.2.2 c hc).2.s_lt, h.2.2.1⟩
/-- with one way more -/
structure More (m : Nat) (t : List Nat) (st : List (Option Way)) : Prop where
  i1 : InSt m st
  i2 : SmallSt st
  i3 : KidIn m st
  i4 : KidNd st
  i5 : ∀ s, s < m → cnt st s ≤ t.getD s 0
theorem set_cut {α : Type} {t : List α} {s : Nat} (x : α) (h : s < t.length) : t.take s ++ (x :: t.drop (s + 1)) = t.set s x := by
  rw [List.set_eq_take_append_cons_drop, if_pos h]
theorem Good.more (g : Good m t l st) {w u : Way} {j : Nat} (hw : WayOk m l 12 w) (hj : st[j]? = some (some u)) (hs : w.s = u.s) : More m t (st.set j (some w)) := by
  have hj2 : j < st.length := (List.getElem?_eq_some_iff.mp hj).1
  have ej : st[j] = some u := (List.getElem?_eq_some_iff.mp hj).2
  have mem : ∀ u, some u ∈ st.set j (some w) → WayOk m l 12 u := fun u hu => by
    rcases List.mem_or_eq_of_mem_set hu with h | h
    · exact g.ok.1 u h
    · cases h
      exact hw
  refine ⟨fun u hu => (mem u hu).s_lt, ⟨by have := g.len; rw [List.length_set]; omega, fun u hu => by have := (WayOk.kid (mem u hu)).1; omega⟩, fun u hu => (WayOk.kid (mem u hu)).2.1, fun u hu => ((WayOk.kid (mem u hu)).2.2).imp (fun h => Nat.ne_of_lt h), fun s hs' => ?_⟩
  have h1 := g.ok.2 s hs'
  have e : cnt (st.set j (some w)) s = cnt st s := by
    have h1 : cnt (st.set j (some w)) s = (st.take j).countP (atS s) + ((st.drop (j + 1)).countP (atS s) + if atS s (some w) = true then 1 else 0) := by
      rw [← set_cut (some w) hj2]
      simp only [cnt, List.countP_append, List.countP_cons]
    have h2 : cnt st s = (st.take j).countP (atS s) + ((st.drop j).countP (atS s)) := by rw [← List.countP_append, List.take_append_drop]; rfl
    have ea : atS s (some w) = atS s (some u) := by simp only [atS, hs]
    rw [h1, h2, List.drop_eq_getElem_cons hj2, List.countP_cons, ej, ea]
  rw [e]
  exact h1
section
variable (n : Nat) (M : Mm)
theorem look_way (v x : Vl) (he : evCall gs.kl gs.T (n + 1) "way_error" [netV t l, v] M = .ok x M) (hv : pureR v = true) (hx : pureV x = true) (hn : isNon x = some (decide (x = .non))) :
    evCall gs.kl gs.T (n + 2) "look_at_way" [netV t l, v] M = if x = .non then .ok .non M else .exc "BadWay" [x] M := by
  rw [call_of (show gs.T "look_at_way" = some f_look_at_way from rfl) rfl]
  simp only [f_look_at_way]
  have vx := varV_R (pure_R hx)
  by_cases h : x = .non
  · rw [if_pos h]
    simp_all_arith! [varV_R hv, he, vx, ↓hn, eq_true h]
    exact leave_nx0
  · rw [if_neg h]
    simp_all_arith! [varV_R hv, he, vx, ↓hn, eq_false h]
    exact leave_exc0 (by simp [belowL, below_pure _ hx])
theorem look_station (st : List (Option Way)) (s : Nat) (q : More t.length t st) (hs : s < t.length) (ht : t.length < 1000) :
    evCall gs.kl gs.T (n + 3) "look_at_station" [netV t l, stV st, .int s] M = if lotAt t st s ≠ [] then .exc "Refused" [.tup ((lotAt t st s).map iv)] M else .ok .non M := by
  have e := closure_ok gs.kl (T := gs.T) rfl rfl rfl n M t l st s hs (by omega) q.i1 q.i3 q.i2
  rw [call_of (show gs.T "look_at_station" = some f_look_at_station from rfl) rfl]
  simp only [f_look_at_station]
  cases z : lotAt t st s with
  | nil =>
    rw [z] at e
    simp_all_arith! [e, List.map_nil]
    rw [if_neg (by simp)]
    exact leave_nx0
  | cons a r =>
    rw [z] at e
    rw [if_pos (by simp)]
    have pl := pure_iv (a :: r)
    rw [List.map_cons] at pl
    simp_all_arith! [e, eqP_tnil pl]
    exact leave_exc0 (by simpa [below, belowL] using belowL_pure _ pl)
end
theorem rows_sz : ∀ (w : Wt) (ab ah : Option Vl) (d : Nat), (rowsW w ab ah d).length ≤ sz (we w) := by
  have key : ∀ (n : Nat) (w : Wt), sizeOf w ≤ n → ∀ ab ah d, (rowsW w ab ah d).length ≤ sz (we w) := by
    intro n
    induction n with
    | zero => intro w h; cases w; simp at h
    | succ n ih =>
      rintro ⟨s, f⟩ h ab ah d
      have kids : ∀ (g : List Wt), (∀ w ∈ g, sizeOf w ≤ n) → ∀ s last d, (rowsL g s last d).length ≤ szL (g.map we) := by
        intro g
        induction g with
        | nil => simp [rowsL]
        | cons w r ihr =>
          intro hg s last d
          have h1 := ih w (hg w (by simp)) (some s) last d
          have h2 := ihr (fun x hx => hg x (by simp [hx])) s (some w.s) d
          simp only [rowsL, List.length_append, List.map_cons, szL]
          omega
      have := kids f (fun w hw => by
        have := List.sizeOf_lt_of_mem hw
        simp only [Wt.mk.sizeOf_spec] at h
        omega) s none (d + 1)
      rw [we_mk]
      simp only [rowsW, List.length_cons, sz, szL]
      omega
  exact fun w => key _ w (Nat.le_refl _)
/-- what both look at -/
theorem slips (t : List Nat) (l : List (Nat × Nat)) (v : Vl) {c d : Nat} (hv : Okv v c d) (hc : c ≤ 1000000) :
    ∃ x, pureV x = true ∧ isNon x = some (decide (x = .non)) ∧ Okv x 120 1 ∧ (x = .non → ∃ w : Way, v = wv w ∧ WayOk t.length l 12 w) ∧
      (∀ n M, d ≤ n → evCall gs.kl gs.T (n + 4) "way_error" [netV t l, v] M = .ok x M) ∧ (∀ n M, d ≤ n → evCall gs.kl gs.T (n + 2) "_law_way_slip" [netV t l, v] M = .ok x M) := by
  have hp := hv.R
  have wk : ∀ s : String, lf (word s) = true → Okv (word s) 120 1 := fun s h => ⟨h, by simp [word, sz], by simp [word, dep]⟩
  have nn : ∀ s : String, isNon (word s) = some (decide (word s = .non)) := fun s => by simp [word, isNon]
  by_cases hb : blt v = true
  · obtain ⟨w, rfl⟩ := blt_ex _ v (Nat.le_refl _) hb
    have hl : (rowsW w none none 0).length ≤ 1000000 := Nat.le_trans (rows_sz w _ _ _) (Nat.le_trans hv.s1 hc)
    refine ⟨slipW t.length l w, pure_slipW _ _ _, ?_, ?_, slipW_non hb, fun n M h => way_error_we gs.kl (T := gs.T) rfl rfl rfl rfl rfl rfl rfl rfl n M t l w hb hp (Nat.le_trans hv.d1 h) (by omega), fun n M h => way_slip_ok gs.kl (T := gs.T) rfl rfl rfl rfl n M t l w hb hp (Nat.le_trans hv.d1 h) (by omega)⟩
    · unfold slipW
      split
      · exact nn _
      · split
        · exact nn _
        · unfold pairV
          split
          · rfl
          · split
            · rfl
            · split <;> rfl
    · have tw : ∀ (s : String) (k : Nat), lf (word s) = true → k ≤ 1000000 → Okv (.tup [word s, iv k]) 120 1 := fun s k h hk => by
        have a : Okv (word s) 50 0 := ⟨h, by simp [word, sz], by simp [word, dep]⟩
        refine (a.t2 (Okv.int (i := k) ?_)).mono (by decide) (by decide)
        have q : (10 : Nat) ^ 7 < 10 ^ 40 := by decide
        omega
      have le : ∀ p k, (rowsW w none none 0).findIdx? p = some k → k ≤ 1000000 := fun p k h => by
        obtain ⟨h1, _⟩ := List.findIdx?_eq_some_iff_getElem.mp h
        omega
      unfold slipW
      split
      · exact wk _ (by decide +kernel)
      · split
        · exact wk _ (by decide +kernel)
        · unfold pairV
          split
          · rename_i k h; exact tw _ k (by decide +kernel) (le _ k h)
          · split
            · rename_i k h; exact tw _ k (by decide +kernel) (le _ k h)
            · split
              · rename_i k h; exact tw _ k (by decide +kernel) (le _ k h)
              · exact ⟨rfl, by simp [sz], by simp [dep]⟩
  · have hb : blt v = false := by simpa using hb
    exact ⟨word "form", pure_word _, nn _, wk _ (by decide +kernel), fun h => by simp [word] at h, fun n M h => way_error_no gs.kl (T := gs.T) rfl rfl (n + 2) M t l v hb hp (by have := hv.d1; omega), fun n M h => way_slip_no gs.kl (T := gs.T) rfl rfl n M t l v hb hp (Nat.le_trans hv.d1 h)⟩
theorem answer (g : Good m t l st) (z : Int) (v : Vl) {d : Nat} (hv : Okv v 1000000 d) :
    ∃ A : Ans, (∀ n M, d ≤ n → evCall gs.kl gs.T (n + 6) "rewayed" [netV t l, stV st, .int z, v] M = ansR st M A) ∧ (∀ n M, d ≤ n → evCall gs.kl gs.T (n + 3) "_law_rewayed_due" [netV t l, stV st, .int z, v] M = .ok (ansV st A) M) ∧
      pureR (ansV st A) = true ∧ ((lf (stV st) = true ∧ sz (stV st) ≤ 6000000 ∧ dep (stV st) ≤ 60 ∧ d ≤ 60) → Rp (ansV st A)) := by
  have sl : PySem.sizeLine = 16777216 := by decide
  obtain ⟨x, px, nx, ox, wx, eE, eS⟩ := slips t l v hv (Nat.le_refl _)
  have hp := hv.R
  have vv := varV_R hp
  have vx := varV_R (pure_R px)
  have ht := g.tl
  have hm := g.hm
  have lw : ∀ s : String, lf (word s) = true → Okv (word s) 50 0 := fun s h => ⟨h, by simp [word, sz], by simp [word, dep]⟩
  have rp : ∀ {a b : Vl} {c d c' d' : Nat}, Okv a c d → Okv b c' d' → c + c' + 7 ≤ 16777216 → max d d' + 1 ≤ 150 → Rp (.lst [a, b]) := fun h h' hc hd => ⟨(h.l2 h').l1, Nat.le_trans (h.l2 h').d1 hd, Nat.le_trans (h.l2 h').s1 hc⟩
  have pu : pureR (ansV st .unfit) = true := by have := okS_of "Unfit"; simp only [ansV, word, pureR, pureRL, Bool.and_true]; exact this
  have ru : Rp (ansV st .unfit) := ⟨by
    show lfL [word "Unfit"] = true
    rw [lfL_iff]
    intro y hy
    rw [List.mem_singleton.mp hy]
    decide +kernel, by simp [ansV, word, dep, depL], by simp [ansV, word, sz, szL]⟩
  -- no train, or a gone one
  by_cases h0 : ∃ (j : Nat) (u : Way), z = j ∧ st[j]? = some (some u)
  · obtain ⟨j, u, rfl, hj⟩ := h0
    have hj2 : j < st.length := (List.getElem?_eq_some_iff.mp hj).1
    by_cases h : x = .non
    · subst h
      obtain ⟨w, rfl, hw⟩ := wx rfl
      have eL := fun n M (h : d ≤ n) => look_way (n + 3) M (wv w) .non (eE n M h) hp px nx
      simp only [if_true] at eL
      by_cases hs : w.s = u.s
      · have hs1 : ((w.s : Int) = u.s) = True := eq_true (by omega)
        have hs2 : ((u.s : Int) = w.s) = True := eq_true (by omega)
        have hws : w.s < t.length := hw.s_lt
        have mo : More t.length t (st.set j (some w)) := by rw [ht]; exact g.more (ht ▸ hw) hj hs
        have sn : (st.map ov).take j ++ (wv w :: (st.map ov).drop (j + 1)) = (st.set j (some w)).map ov := by
          rw [set_cut (wv w) (by rw [List.length_map]; exact hj2), List.map_set]
          rfl
        have eK := fun n M => look_station (l := l) n M (st.set j (some w)) w.s mo hws (by omega)
        have eT := fun n M => least_ok gs.kl (T := gs.T) rfl rfl n M t l (st.set j (some w)) w.s hws (by omega) mo.i1 mo.i3 mo.i4 mo.i5
        have l1 : ((List.take j (st.map ov)).length + 1 ≤ PySem.sizeLine) = True := eq_true (by have := g.len; rw [List.length_take, List.length_map]; omega)
        have l2 : ((List.take j (st.map ov)).length + (1 + (List.drop (j + 1) (st.map ov)).length) ≤ PySem.sizeLine) = True := eq_true (by have := g.len; rw [List.length_take, List.length_drop, List.length_map]; omega)
        rw [show stV (st.set j (some w)) = .tup ((st.map ov).take j ++ (wv w :: (st.map ov).drop (j + 1))) by rw [sn]] at eK eT
        cases z : lotAt t (st.set j (some w)) w.s with
        | nil =>
          rw [z] at eK eT
          simp only [ne_eq, not_true_eq_false, if_false] at eK
          have pst : pureR (.tup ((st.map ov).take j ++ (wv w :: (st.map ov).drop (j + 1)))) = true := by rw [sn]; exact pure_R (pure_st _)
          have pan : pureR (ansV st (.told j (wv w))) = true := by
            have := okS_of "told"
            simp only [ansV, word, pureR, pureRL, Bool.and_true, Bool.and_eq_true]
            exact ⟨this, by simpa [pureR] using pst⟩
          refine ⟨.told j (wv w), fun n M h => ?_, fun n M h => ?_, pan, fun hst => ?_⟩
          · rw [call_of (show gs.T "rewayed" = some f_rewayed from rfl) rfl]
            simp only [f_rewayed, ansR]
            simp_all_arith! [hj2, place_nat, List.getElem?_map, hj, ov, ↓isNon_wv, eL n M h, iv, hs1, l1, l2, eK]
            exact leave_ret0 (below_R _ pst)
          · rw [call_of (show gs.T "_law_rewayed_due" = some f__law_rewayed_due from rfl) rfl]
            simp only [f__law_rewayed_due]
            rw [List.map_nil] at eT
            simp_all_arith! [hj2, place_nat, List.getElem?_map, hj, ov, ↓isNon_wv, eS n M h, ↓nx, iv, hs2, l1, l2, eT]
            exact leave_ret0 (below_R _ pan)
          · have a : Okl (st.map ov) 6000000 60 := ⟨by simpa [lf] using hst.1, by have := hst.2.1; simp only [stV, sz] at this; omega, by have := hst.2.2.1; simp only [stV, dep] at this; omega⟩
            have c1 := (a.cut j)
            have c2 := (a.cut (j + 1))
            have b := (c1.1.app ((Okl.one hv).app c2.2.1)).tup
            exact rp (lw _ (by decide +kernel)) b (by have := c1.2.2; have := c2.2.2; omega) (by have := hst.2.2.2; omega)
        | cons a r =>
          rw [z] at eK eT
          simp only [ne_eq, reduceCtorEq, not_false_eq_true, if_true] at eK
          have pl := pure_iv (a :: r)
          have pl2 : pureR (.tup ((a :: r).map iv)) = true := pure_R (by simp only [pureV]; exact pl)
          rw [List.map_cons] at pl
          have pan : pureR (ansV st (.refused (a :: r))) = true := by
            have := okS_of "Refused"
            simp only [ansV, word, pureR, pureRL, Bool.and_true, Bool.and_eq_true]
            exact ⟨this, by simpa [pureR] using pl2⟩
          refine ⟨.refused (a :: r), fun n M h => ?_, fun n M h => ?_, pan, fun hst => ?_⟩
          · rw [call_of (show gs.T "rewayed" = some f_rewayed from rfl) rfl]
            simp only [f_rewayed, ansR]
            simp_all_arith! [hj2, place_nat, List.getElem?_map, hj, ov, ↓isNon_wv, eL n M h, iv, hs1, l1, l2, eK]
            exact leave_exc0 (by simpa [below, belowL] using belowL_pure _ pl)
          · rw [call_of (show gs.T "_law_rewayed_due" = some f__law_rewayed_due from rfl) rfl]
            simp only [f__law_rewayed_due]
            rw [List.map_cons] at eT
            simp_all_arith! [hj2, place_nat, List.getElem?_map, hj, ov, ↓isNon_wv, eS n M h, ↓nx, iv, hs2, l1, l2, eT, eqP_tnil pl]
            exact leave_ret0 (below_R _ pan)
          · have hx : ∀ y ∈ a :: r, y < m := fun y hy => by
              rw [← z] at hy
              unfold lotAt at hy
              split at hy
              · have := List.mem_range.mp (List.mem_filter.mp hy).1
                omega
              · cases hy
            have ll : (a :: r).length ≤ t.length := by
              rw [← z]
              unfold lotAt
              split
              · have := List.length_filter_le (fun x => @decide (Rch (st.set j (some w)) w.s x) (Classical.propDecidable _)) (List.range t.length)
                rwa [List.length_range] at this
              · simp
            have q : Okl ((a :: r).map iv) 6000 0 := ⟨lf_ivs fun y hy => by have := hx y hy; omega, by rw [sz_ivs]; omega, by rw [dep_iv]; exact Nat.le_refl _⟩
            exact rp (lw _ (by decide +kernel)) q.tup (by decide) (by decide)
      · have hs1 : ((w.s : Int) = u.s) = False := eq_false (by omega)
        have hs2 : ((u.s : Int) = w.s) = False := eq_false (by omega)
        refine ⟨.unfit, fun n M h => ?_, fun n M h => ?_, pu, fun _ => ru⟩
        · rw [call_of (show gs.T "rewayed" = some f_rewayed from rfl) rfl]
          simp only [f_rewayed, ansR]
          simp_all_arith! [hj2, place_nat, List.getElem?_map, hj, ov, ↓isNon_wv, eL n M h, iv, hs1]
          exact leave_exc0 (by simp [belowL])
        · rw [call_of (show gs.T "_law_rewayed_due" = some f__law_rewayed_due from rfl) rfl]
          simp only [f__law_rewayed_due, ansV]
          simp_all_arith! [hj2, place_nat, List.getElem?_map, hj, ov, ↓isNon_wv, eS n M h, ↓nx, iv, hs2]
          exact leave_ret0 (below_R _ pu)
    · have hxl : lf (word "BadWay") = true := by decide +kernel
      have pan : pureR (ansV st (.bad x)) = true := by
        have := okS_of "BadWay"
        simp only [ansV, word, pureR, pureRL, Bool.and_true, Bool.and_eq_true]
        exact ⟨this, pure_R px⟩
      refine ⟨.bad x, fun n M hd => ?_, fun n M hd => ?_, pan, fun _ => rp (lw _ hxl) ox (by decide) (by decide)⟩
      · have eL := look_way (n + 3) M v x (eE n M hd) hp px nx
        rw [if_neg h] at eL
        rw [call_of (show gs.T "rewayed" = some f_rewayed from rfl) rfl]
        simp only [f_rewayed, ansR]
        simp_all_arith! [hj2, place_nat, List.getElem?_map, hj, ov, ↓isNon_wv, vv, eL]
        exact leave_exc0 (by simp [belowL, below_pure _ px])
      · rw [call_of (show gs.T "_law_rewayed_due" = some f__law_rewayed_due from rfl) rfl]
        simp only [f__law_rewayed_due, ansV]
        simp_all_arith! [hj2, place_nat, List.getElem?_map, hj, ov, ↓isNon_wv, vv, eS n M hd, vx, ↓nx, eq_false h]
        exact leave_ret0 (below_R _ pan)
  · refine ⟨.unfit, fun n M _ => ?_, fun n M _ => ?_, pu, fun _ => ru⟩
    · rw [call_of (show gs.T "rewayed" = some f_rewayed from rfl) rfl]
      simp only [f_rewayed, ansR]
      by_cases h1 : 0 ≤ z
      · obtain ⟨j, rfl⟩ := Int.eq_ofNat_of_zero_le h1
        by_cases h2 : j < st.length
        · have hj : st[j]? = some none := by
            rw [List.getElem?_eq_getElem h2]
            cases q : st[j] with
            | none => rfl
            | some u => exact absurd ⟨j, u, rfl, by rw [List.getElem?_eq_getElem h2, q]⟩ h0
          simp_all_arith! [h2, place_nat, List.getElem?_map, hj, ov]
          exact leave_exc0 (by simp [belowL])
        · simp_all_arith! [h2]
          exact leave_exc0 (by simp [belowL])
      · simp_all_arith! [h1]
        exact leave_exc0 (by simp [belowL])
    · rw [call_of (show gs.T "_law_rewayed_due" = some f__law_rewayed_due from rfl) rfl]
      simp only [f__law_rewayed_due, ansV]
      by_cases h1 : 0 ≤ z
      · obtain ⟨j, rfl⟩ := Int.eq_ofNat_of_zero_le h1
        by_cases h2 : j < st.length
        · have hj : st[j]? = some none := by
            rw [List.getElem?_eq_getElem h2]
            cases q : st[j] with
            | none => rfl
            | some u => exact absurd ⟨j, u, rfl, by rw [List.getElem?_eq_getElem h2, q]⟩ h0
          simp_all_arith! [h2, place_nat, List.getElem?_map, hj, ov]
          exact leave_ret0 (below_R _ pu)
        · simp_all_arith! [h2]
          exact leave_ret0 (below_R _ pu)
      · simp_all_arith! [h1]
        exact leave_ret0 (below_R _ pu)
theorem heard_ok (n : Nat) (M : Mm) (A : Ans) (z : Int) (v : Vl) (b : Bool) (hp : pureR v = true) (pa : pureR (ansV st A) = true) (e : evCall gs.kl gs.T (n + 6) "rewayed" [netV t l, stV st, .int z, v] M = ansR st M A) :
    evCall gs.kl gs.T (n + 7) "_law_heard" [netV t l, stV st, .int z, v, .bl b] M = .ok (ansV st A) M := by
  have fin : leave true M (.ret (ansV st A) M) = .ok (ansV st A) M := leave_ret0 (below_R _ pa)
  rw [← fin]
  rw [call_of (show gs.T "_law_heard" = some f__law_heard from rfl) rfl]
  refine congrArg (leave true M) ?_
  have vv := varV_R hp
  have s1 : gs.kl.sub "BadWay" "BadWay" = true := by decide
  have s2 : gs.kl.sub "Unfit" "BadWay" = false := by decide
  have s3 : gs.kl.sub "Unfit" "Unfit" = true := by decide
  have s4 : gs.kl.sub "Refused" "BadWay" = false := by decide
  have s5 : gs.kl.sub "Refused" "Unfit" = false := by decide
  have s6 : gs.kl.sub "Refused" "Refused" = true := by decide
  have s7 : gs.kl.sub "BadWay" "OfficeError" = true := by decide
  have s8 : gs.kl.sub "Unfit" "OfficeError" = true := by decide
  have s9 : gs.kl.sub "Refused" "OfficeError" = true := by decide
  have f2 : gs.kl.fld "Refused" = some (some "lot") := by decide
  have f3 : gs.kl.fld "BadWay" = some (some "error") := by decide
  simp only [f__law_heard, f__law_heard_t1]
  cases A <;> simp only [ansR] at e <;> cases b <;> simp_all_arith! [vv, e, s1, s2, s3, s4, s5, s6, s7, s8, s9, f2, f3, lookC] <;> rfl
/-- a standing that may be shown -/
def Sh (st : List (Option Way)) : Prop := lf (stV st) = true ∧ sz (stV st) ≤ 6000000 ∧ dep (stV st) ≤ 60
theorem right_ok (M : Mm) (g : Good m t l st) (h : Sh st) (z : Int) (v : Vl) (hv : Okv v 1000000 51) (b : Bool) : evCall gs.kl gs.T 59 "_law_is_right" [netV t l, stV st, .int z, v, .bl b] M = .ok (.bl true) M := by
  obtain ⟨A, e1, e2, pa, ra⟩ := answer g z v hv
  have ra := ra ⟨h.1, h.2.1, h.2.2, by decide⟩
  have hp := hv.R
  have eH := fun b => heard_ok (t := t) (l := l) 51 M A z v b hp pa (e1 51 M (Nat.le_refl _))
  have eD := e2 55 M (by decide)
  have hm := g.hm
  have tl := g.tl
  have ll := lines_len g.lo hm
  have rk : Rp (.lst [netV t l, stV st, v]) := by
    have q1 : lf (netV t l) = true := lf_net hm (fun x hx => (g.tb x hx).2) g.lo
    refine ⟨?_, ?_, ?_⟩
    · show lfL [netV t l, stV st, v] = true
      rw [lfL_iff]
      intro x hx
      simp only [List.mem_cons, List.not_mem_nil, or_false] at hx
      rcases hx with rfl | rfl | rfl
      · exact q1
      · exact h.1
      · exact hv.l1
    · have := dep_net t l
      have := h.2.2
      have := hv.d1
      simp only [dep, depL] at *
      omega
    · have := sz_net t l
      have := h.2.1
      have := hv.s1
      simp only [sz, szL] at *
      omega
  have qk := eqP_shown rk
  have qa := eqP_shown ra
  rw [call_of (show gs.T "_law_is_right" = some f__law_is_right from rfl) rfl]
  simp only [f__law_is_right]
  simp_all_arith! [varV_R hp, ↓Rp.eval rk, eD, ↓Rp.eval ra, eH, qk, qa]
  exact leave_ret0 (by simp [below])
theorem okl_of {m : Nat} {l : List (Nat × Nat)} (hm : m < 100) {w : Way} (h : WayOk m l 4 w) : Okv (wv w) 7500 10 ∧ Okl (w.f.map wv) 7500 10 := by
  have w4 : wsz 4 = 7500 := by decide
  obtain ⟨h1, h2, h3⟩ := way_rp hm h
  rw [w4] at h2
  refine ⟨⟨h1, h2, h3⟩, ?_⟩
  rw [wv_def] at h1 h2 h3
  simp only [lf, lfL, Bool.and_true, Bool.and_eq_true] at h1
  simp only [sz, szL] at h2
  simp only [dep, depL] at h3
  exact ⟨h1.2, by omega, by omega⟩
theorem law_ok (ns : List Int) (hl : ns.length ≤ 63) : ∃ M, evCall gs.kl gs.T 60 "law" [.scr (ns.map .int)] [] = .ok (.bl true) M := by
  have sl : PySem.sizeLine = 16777216 := by decide
  let scr : Vl := .scr (ns.map .int)
  let σ := fun (turn m : Nat) (t : List Nat) (l : List (Nat × Nat)) (st : List (Option Way)) (o7 o8 o9 o10 : Option Vl) => [some scr, some (.ref 1), some (iv turn), some (iv m), some (netV t l), some (stV st), some (.int st.length), o7, o8, o9, o10]
  -- steps
  have body1 : ∀ (turn m : Nat) (t : List Nat) (l : List (Nat × Nat)) (st : List (Option Way)) (z : Int) (s k : Nat) (o10 : Option Vl) (B : Bag), B.Ok → Good m t l st → Sh st → s < m → k ≤ 4 →
      ∃ o10' B', B'.Ok ∧ evSs gs.kl (evCall gs.kl gs.T 59) f_law_b1 (σ turn m t l st (some (.int z)) (some (iv s)) (some (.int k)) o10) (bgm B []) = .nx (σ turn m t l st (some (.int z)) (some (iv s)) (some (.int k)) o10') (bgm B' []) := by
    intro turn m t l st z s k o10 B hB g h hs hk
    obtain ⟨w, B1, b1, _, hw, e1⟩ := way_ok gs.kl (T := gs.T) rfl rfl rfl 52 t l m g.lo g.hm 4 B hB [] s k 1 hs (by omega)
    have ow := okl_of g.hm hw
    have er := fun b => right_ok (bgm B1 []) g h z (wv w) (ow.1.mono (by decide) (by decide)) b
    refine ⟨some (wv w), B1, b1, ?_⟩
    simp only [f_law_b1, σ, scr]
    simp only [iv] at e1
    simp_all_arith! [iv, e1, er]
  -- one train
  have body2 : ∀ (turn m : Nat) (t : List Nat) (l : List (Nat × Nat)) (st : List (Option Way)) (z : Int) (o8 o9 o10 : Option Vl) (B : Bag), B.Ok → Good m t l st → Sh st →
      ∃ o8' o9' o10' B', B'.Ok ∧ evSs gs.kl (evCall gs.kl gs.T 59) f_law_b2 (σ turn m t l st (some (.int z)) o8 o9 o10) (bgm B []) = .nx (σ turn m t l st (some (.int z)) o8' o9' o10') (bgm B' []) := by
    intro turn m t l st z o8 o9 o10 B hB g h
    have tl := g.tl
    have hm := g.hm
    have hm0 := g.hm0
    obtain ⟨s0, B1, b1, hs0, e1⟩ := draw_n gs.kl (T := gs.T) rfl 58 B hB [] m (by omega) (by omega)
    have sta : ∃ s : Nat, s < m ∧ evS gs.kl (evCall gs.kl gs.T 59) (nthS 1 f_law_b2) (σ turn m t l st (some (.int z)) (some (.int s0)) o9 o10) (bgm B1 []) = .nx (σ turn m t l st (some (.int z)) (some (iv s)) o9 o10) (bgm B1 []) := by
      by_cases h0 : ∃ (j : Nat) (u : Way), z = j ∧ st[j]? = some (some u)
      · obtain ⟨j, u, rfl, hj⟩ := h0
        have hj2 : j < st.length := (List.getElem?_eq_some_iff.mp hj).1
        refine ⟨u.s, g.ok.inSt u (List.mem_of_getElem? hj), ?_⟩
        simp only [nthS, f_law_b2, σ, scr]
        simp_all_arith! [hj2, place_nat, List.getElem?_map, hj, ov, ↓isNon_wv]
      · refine ⟨s0, by omega, ?_⟩
        simp only [nthS, f_law_b2, σ, scr]
        by_cases h1 : 0 ≤ z
        · obtain ⟨j, rfl⟩ := Int.eq_ofNat_of_zero_le h1
          by_cases h2 : j < st.length
          · have hj : st[j]? = some none := by
              rw [List.getElem?_eq_getElem h2]
              cases q : st[j] with
              | none => rfl
              | some u => exact absurd ⟨j, u, rfl, by rw [List.getElem?_eq_getElem h2, q]⟩ h0
            simp_all_arith! [h2, place_nat, List.getElem?_map, hj, ov, iv]
          · simp_all_arith! [h2, iv]
        · simp_all_arith! [h1, iv]
    obtain ⟨s, hs, e2⟩ := sta
    have loop1 : ∃ o9' o10' B', B'.Ok ∧ evS gs.kl (evCall gs.kl gs.T 59) f_law_l1 (σ turn m t l st (some (.int z)) (some (iv s)) o9 o10) (bgm B1 []) = .nx (σ turn m t l st (some (.int z)) (some (iv s)) o9' o10') (bgm B' []) := by
      obtain ⟨q1, B2, b2, e3⟩ := body1 turn m t l st z s 1 o10 B1 b1 g h hs (by decide)
      obtain ⟨q2, B3, b3, e4⟩ := body1 turn m t l st z s 3 q1 B2 b2 g h hs (by decide)
      refine ⟨some (.int 3), q2, B3, b3, ?_⟩
      simp only [f_law_l1]
      simp only [σ, scr] at e3 e4 ⊢
      rw [show ((1 : Nat) : Int) = 1 from rfl] at e3
      rw [show ((3 : Nat) : Int) = 3 from rfl] at e4
      simp_all_arith! [forL, gdOk, bindT, e3, e4]
    obtain ⟨p9, p10, B2, b2, e3⟩ := loop1
    obtain ⟨k2, B3, b3, hk2, e4⟩ := draw_n gs.kl (T := gs.T) rfl 58 B2 b2 [] m (by omega) (by omega)
    obtain ⟨v, B4, b4, hv, e5⟩ := pick_ok gs.kl (T := gs.T) rfl rfl 57 B3 b3 [] [iv s, .int k2] (by simp [pureL, pureV, iv]) (by simp) (by simp)
    obtain ⟨s2, hs2, rfl⟩ : ∃ s2 : Nat, s2 < m ∧ v = iv s2 := by
      simp only [List.mem_cons, List.not_mem_nil, or_false] at hv
      rcases hv with rfl | rfl
      · exact ⟨s, hs, rfl⟩
      · exact ⟨k2, by omega, rfl⟩
    obtain ⟨k3, B5, b5, hk3, e6⟩ := draw_n gs.kl (T := gs.T) rfl 58 B4 b4 [] 4 (by decide) (by decide)
    obtain ⟨w, B6, b6, _, hw, e7⟩ := way_ok gs.kl (T := gs.T) rfl rfl rfl 52 t l m g.lo g.hm 4 B5 b5 [] s2 k3 1 hs2 (by omega)
    have ow := okl_of g.hm hw
    have e8 := right_ok (bgm B6 []) g h z (wv w) (ow.1.mono (by decide) (by decide)) false
    obtain ⟨v, B7, b7, ov, e9⟩ := bent_ok gs.kl (T := gs.T) rfl rfl rfl rfl 50 [] t l (by omega) (by omega) 4 w (tl ▸ hw) B6 b6 7500 10 ow.2
    have e10 := right_ok (bgm B7 []) g h z v (ov.mono (by decide) (by decide)) false
    refine ⟨some (iv s), p9, some (wv w), B7, b7, ?_⟩
    have hb : f_law_b2 = .cons (nthS 0 f_law_b2) (.cons (nthS 1 f_law_b2) (.cons (nthS 2 f_law_b2) (dropS 3 f_law_b2))) := rfl
    rw [hb]
    generalize nthS 1 f_law_b2 = S1 at *
    simp only [nthS, dropS, f_law_b2]
    simp only [σ, scr] at e2 e3 ⊢
    simp only [iv] at e2 e3 e5 e7
    simp_all_arith! [iv, e1, e2, e3, e4, e5, e6, e7, e8, e9, e10]
  have loop2 : ∀ (turn m : Nat) (t : List Nat) (l : List (Nat × Nat)) (st : List (Option Way)) (o7 o8 o9 o10 : Option Vl) (B : Bag), B.Ok → Good m t l st → Sh st →
      ∃ o7' o8' o9' o10' B', B'.Ok ∧ evS gs.kl (evCall gs.kl gs.T 59) f_law_l2 (σ turn m t l st o7 o8 o9 o10) (bgm B []) = .nx (σ turn m t l st o7' o8' o9' o10') (bgm B' []) := by
    intro turn m t l st o7 o8 o9 o10 B hB g h
    have len := g.len
    obtain ⟨mx, B1, b1, pm, e1⟩ := mixed_ok gs.kl (T := gs.T) rfl rfl 57 B hB [] ((List.range st.length).map iv) (pure_iv _) (by simp; omega)
    let L : List Vl := [.int st.length, .int (-1), .int ((st.length : Int) + 2), .int (10 ^ Int.toNat 9), .int (-(st.length : Int))]
    obtain ⟨v, B2, b2, hv, e2⟩ := pick_ok gs.kl (T := gs.T) rfl rfl 57 B1 b1 [] L (by simp [L, pureL, pureV]) (by simp [L]) (by simp [L])
    have rt : rngOk (st.length : Int) := rngOk_nat (by omega)
    have c4 : cutL mx none (some 4) = mx.take 4 := cutL_take mx 4
    have hp : (Int.natAbs 10 < 2 ^ 64) = True := eq_true (by decide)
    have itI : ∀ x ∈ mx.take 4 ++ [v], ∃ z : Int, x = .int z := by
      intro x hx
      rcases List.mem_append.mp hx with q | q
      · obtain ⟨k, _, rfl⟩ := List.mem_map.mp (pm.subset (List.mem_of_mem_take q))
        exact ⟨k, rfl⟩
      · rw [List.mem_singleton.mp q]
        simp only [L, List.mem_cons, List.not_mem_nil, or_false] at hv
        rcases hv with rfl | rfl | rfl | rfl | rfl <;> exact ⟨_, rfl⟩
    have l1 : (st.length ≤ 16777216) = True := eq_true (by omega)
    have l2 : ((mx.take 4).length + 1 ≤ PySem.sizeLine) = True := eq_true (by rw [List.length_take]; omega)
    have e0 : evS gs.kl (evCall gs.kl gs.T 59) f_law_l2 (σ turn m t l st o7 o8 o9 o10) (bgm B []) = forL (fun x σ M => bindT (.nm 7) x σ M) (fun σ M => evSs gs.kl (evCall gs.kl gs.T 59) f_law_b2 σ M) [] (mx.take 4 ++ [v]) (σ turn m t l st o7 o8 o9 o10) (bgm B2 []) := by
      simp only [f_law_l2, σ, scr]
      simp only [L] at e2
      simp_all_arith! [rt, rng_iv, List.length_range, l1, e1, c4, hp, e2, l2]
    rw [e0]
    refine forL_inv (Q := fun r => ∃ o7' o8' o9' o10' B', B'.Ok ∧ r = .nx (σ turn m t l st o7' o8' o9' o10') (bgm B' []))
      (fun k σ' M' => ∃ o7' o8' o9' o10' B', B'.Ok ∧ σ' = σ turn m t l st o7' o8' o9' o10' ∧ M' = bgm B' []) ?_ ?_ ?_ ?_
    · exact ⟨o7, o8, o9, o10, B2, b2, rfl, rfl⟩
    · exact fun _ _ _ _ _ => trivial
    · rintro k hk _ _ ⟨p7, p8, p9, p10, B3, b3, rfl, rfl⟩
      obtain ⟨z, hz⟩ := itI _ (List.getElem_mem hk)
      rw [hz]
      obtain ⟨q8, q9, q10, B4, b4, e⟩ := body2 turn m t l st z p8 p9 p10 B3 b3 g h
      refine ⟨_, rfl, ?_⟩
      show Stp _ _ (evSs gs.kl (evCall gs.kl gs.T 59) f_law_b2 (σ turn m t l st (some (.int z)) p8 p9 p10) _)
      rw [e]
      exact ⟨_, _, _, _, B4, b4, rfl, rfl⟩
    · rintro _ _ ⟨p7, p8, p9, p10, B3, b3, rfl, rfl⟩
      exact ⟨p7, p8, p9, p10, B3, b3, rfl⟩
  let τ := fun (turn : Nat) (o3 o4 o5 o6 o7 o8 o9 o10 : Option Vl) => [some scr, some (.ref 1), some (iv turn), o3, o4, o5, o6, o7, o8, o9, o10]
  have body3 : ∀ (turn : Nat) (o3 o4 o5 o6 o7 o8 o9 o10 : Option Vl) (B : Bag), B.Ok → ∃ o3' o4' o5' o6' o7' o8' o9' o10' B', B'.Ok ∧
      evSs gs.kl (evCall gs.kl gs.T 59) f_law_b3 (τ turn o3 o4 o5 o6 o7 o8 o9 o10) (bgm B []) = .nx (τ turn o3' o4' o5' o6' o7' o8' o9' o10') (bgm B' []) := by
    intro turn o3 o4 o5 o6 o7 o8 o9 o10 B hB
    obtain ⟨k, B1, b1, hk, e1⟩ := draw_n gs.kl (T := gs.T) rfl 58 B hB [] 4 (by decide) (by decide)
    have ek : (3 : Int) + (k : Int) = ((3 + k : Nat) : Int) := by omega
    have net : ∃ (t : List Nat) (l : List (Nat × Nat)) (B2 : Bag), B2.Ok ∧ t.length = 3 + k ∧ (∀ x ∈ t, 1 ≤ x ∧ x ≤ 3) ∧ LinesOk (3 + k) l ∧
        (if turn = 0 then evCall gs.kl gs.T 59 "_law_gated" [.ref 1, .int (3 + k : Nat)] (bgm B1 []) else evCall gs.kl gs.T 59 "_law_net" [.ref 1, .int (3 + k : Nat)] (bgm B1 [])) = .ok (netV t l) (bgm B2 []) := by
      by_cases h : turn = 0
      · obtain ⟨t0, t, l, B2, g1, g2, g3, _, _, g4, e⟩ := gated_ok gs.kl (T := gs.T) rfl rfl rfl rfl rfl rfl 55 B1 b1 [] (3 + k) (by omega) (by omega)
        exact ⟨t, l, B2, g1, g2, g3, g4, by rw [if_pos h]; exact e⟩
      · obtain ⟨t, l, B2, g1, g2, g3, g4, e⟩ := net_ok gs.kl (T := gs.T) rfl rfl rfl 56 B1 b1 [] (3 + k) (by omega) (by omega)
        exact ⟨t, l, B2, g1, g2, g3, g4, by rw [if_neg h]; exact e⟩
    obtain ⟨t, l, B2, b2, t1, t2, lo, e2⟩ := net
    obtain ⟨st, B4, b4, s1, s2, e4⟩ := standing_ok gs.kl (T := gs.T) rfl rfl rfl rfl rfl 51 t l (3 + k) (by omega) (fun x hx => by have := (t2 x hx).2; omega) lo (by omega) B2 b2 [] 7
    have w4 : wsz 4 = 7500 := by decide
    have g : Good (3 + k) t l st := ⟨t1, by omega, by omega, fun x hx => by have := t2 x hx; omega, lo, ⟨fun w hw => (s1.1 w hw).more 8, s1.2⟩, by omega⟩
    have hsh : Sh st := by
      obtain ⟨h1, h2, h3⟩ := st_rp (by omega) (by decide) s1.1
      rw [w4] at h2
      have := Nat.mul_le_mul_left (7500 + 2) s2
      exact ⟨h1, by omega, by omega⟩
    obtain ⟨p7, p8, p9, p10, B5, b5, e5⟩ := loop2 turn (3 + k) t l st o7 o8 o9 o10 B4 b4 g hsh
    obtain ⟨j, B6, b6, hj, e6⟩ := draw_n gs.kl (T := gs.T) rfl 58 B5 b5 [] ((st.length : Int) + 1) (by omega) (by omega)
    obtain ⟨v, B7, b7, ov, e7⟩ := odd_ok gs.kl (T := gs.T) rfl rfl rfl 56 B6 b6 []
    have e8 := right_ok (bgm B7 []) g hsh j v (ov.mono (by decide) (by decide)) true
    refine ⟨some (iv (3 + k)), some (netV t l), some (stV st), some (.int st.length), p7, p8, p9, p10, B7, b7, ?_⟩
    have e4' : evCall gs.kl gs.T 59 "_law_standing" [.ref 1, netV t l, .int 7] (bgm B2 []) = .ok (stV st) (bgm B4 []) := e4
    simp only [f_law_b3]
    simp only [σ, τ, scr] at e5 ⊢
    by_cases h0 : turn = 0
    · rw [if_pos h0] at e2
      subst h0
      simp_all_arith! [e1, ek, e2, e4', e5, e6, e7, e8]
    · rw [if_neg h0] at e2
      simp_all_arith! [e1, ek, eq_false h0, e2, e4', e5, e6, e7, e8]
  have loop3 : ∀ (B : Bag), B.Ok → ∃ o2 o3 o4 o5 o6 o7 o8 o9 o10 B', B'.Ok ∧ evS gs.kl (evCall gs.kl gs.T 59) f_law_l3 [some scr, some (.ref 1), none, none, none, none, none, none, none, none, none] (bgm B []) =
      .nx [some scr, some (.ref 1), o2, o3, o4, o5, o6, o7, o8, o9, o10] (bgm B' []) := by
    intro B hB
    have e0 : evS gs.kl (evCall gs.kl gs.T 59) f_law_l3 [some scr, some (.ref 1), none, none, none, none, none, none, none, none, none] (bgm B []) =
        forL (fun x σ M => bindT (.nm 2) x σ M) (fun σ M => evSs gs.kl (evCall gs.kl gs.T 59) f_law_b3 σ M) [] ((List.range 4).map iv) [some scr, some (.ref 1), none, none, none, none, none, none, none, none, none] (bgm B []) := by
      have r5 : rngV 0 4 = (List.range 4).map iv := rng_iv 4
      have ro : rngOk 4 := by decide
      simp only [f_law_l3, scr]
      simp_all_arith! [r5, ro]
    rw [e0]
    refine forL_inv (Q := fun r => ∃ o2 o3 o4 o5 o6 o7 o8 o9 o10 B', B'.Ok ∧ r = .nx [some scr, some (.ref 1), o2, o3, o4, o5, o6, o7, o8, o9, o10] (bgm B' []))
      (fun k σ' M' => ∃ o2 o3 o4 o5 o6 o7 o8 o9 o10 B', B'.Ok ∧ σ' = [some scr, some (.ref 1), o2, o3, o4, o5, o6, o7, o8, o9, o10] ∧ M' = bgm B' []) ?_ ?_ ?_ ?_
    · exact ⟨_, _, _, _, _, _, _, _, _, B, hB, rfl, rfl⟩
    · exact fun _ _ _ _ _ => trivial
    · rintro k hk _ _ ⟨o2, o3, o4, o5, o6, o7, o8, o9, o10, B1, b1, rfl, rfl⟩
      obtain ⟨q3, q4, q5, q6, q7, q8, q9, q10, B2, b2, e⟩ := body3 k o3 o4 o5 o6 o7 o8 o9 o10 B1 b1
      refine ⟨τ k o3 o4 o5 o6 o7 o8 o9 o10, by simp [bindT, τ], ?_⟩
      show Stp _ _ (evSs gs.kl (evCall gs.kl gs.T 59) f_law_b3 _ _)
      rw [e]
      exact ⟨_, _, _, _, _, _, _, _, _, B2, b2, rfl, rfl⟩
    · rintro _ _ ⟨o2, o3, o4, o5, o6, o7, o8, o9, o10, B1, b1, rfl, rfl⟩
      exact ⟨o2, o3, o4, o5, o6, o7, o8, o9, o10, B1, b1, rfl⟩
  obtain ⟨B, hB, eb⟩ := bag_ok gs.kl (T := gs.T) rfl 58 ns hl
  obtain ⟨o2, o3, o4, o5, o6, o7, o8, o9, o10, B', hB', e⟩ := loop3 B hB
  refine ⟨[], ?_⟩
  rw [show (60 : Nat) = 59 + 1 from rfl, call_of (show gs.T "law" = some f_law from rfl) rfl]
  simp only [f_law]
  simp only [scr] at e
  simp_all_arith! [eb, e]
  exact leave_ret (M := []) (Y := bgm B' []) (by simp [below])
end Sx.K80
end

section
set_option maxRecDepth 100000
namespace Sx.K80.Asm
open Sg PySem L2 PyProof.Rows
def top (i : Nat) : Stmt := PySem.Challenge.pw_singlegates_k80_whole_trains_go_elsewher.main.body.getD i (.Pass ⟨0, 0, 0, 0⟩)
theorem c_is_integer : chkFn gs f_is_integer n_is_integer (top 9) = true := by decide +kernel
theorem d_is_integer {K : PySem.W.Frag} {mg : Str → Option Value} {h : Heap} (X : K.In h) (G : h.Ns mainGlobals mg) {a : Addr} {oc : Value} {od an : Option Addr} {osl : Array (Option Value)} {kV doc pm cdv ct : Value}
    (e1 : PySem.W.nsIn K mainGlobals (Str.ofString "is_integer") = some (some (.ref a)))
    (e2 : K.lookup a = some ⟨oc, od, .func (PySem.W.fnOf (Str.ofString "is_integer") (Str.ofString "is_integer") (defArgs (top 9)) (defBody (top 9)) (defScope (top 9)) .none kV doc pm an cdv ct), osl⟩)
    (e3 : PySem.W.codeIn K cdv (Str.ofString "is_integer") = true) (e4 : PySem.W.keepIn K (.ref a) = true) : DefAt K mg gs "is_integer" f_is_integer :=
  def_mk X G e1 e2 e3 e4 c_is_integer rfl (fun _ _ _ _ _ _ us hl => match us, hl with | [_], _ => rfl) (no_kw (by decide +kernel))
theorem c_is_number_below : chkFn gs f_is_number_below n_is_number_below (top 10) = true := by decide +kernel
theorem d_is_number_below {K : PySem.W.Frag} {mg : Str → Option Value} {h : Heap} (X : K.In h) (G : h.Ns mainGlobals mg) {a : Addr} {oc : Value} {od an : Option Addr} {osl : Array (Option Value)} {kV doc pm cdv ct : Value}
    (e1 : PySem.W.nsIn K mainGlobals (Str.ofString "is_number_below") = some (some (.ref a)))
    (e2 : K.lookup a = some ⟨oc, od, .func (PySem.W.fnOf (Str.ofString "is_number_below") (Str.ofString "is_number_below") (defArgs (top 10)) (defBody (top 10)) (defScope (top 10)) .none kV doc pm an cdv ct), osl⟩)
    (e3 : PySem.W.codeIn K cdv (Str.ofString "is_number_below") = true) (e4 : PySem.W.keepIn K (.ref a) = true) : DefAt K mg gs "is_number_below" f_is_number_below :=
  def_mk X G e1 e2 e3 e4 c_is_number_below rfl (fun _ _ _ _ _ _ us hl => match us, hl with | [_, _], _ => rfl) (no_kw (by decide +kernel))
theorem c_is_built : chkFn gs f_is_built n_is_built (top 12) = true := by decide +kernel
theorem d_is_built {K : PySem.W.Frag} {mg : Str → Option Value} {h : Heap} (X : K.In h) (G : h.Ns mainGlobals mg) {a : Addr} {oc : Value} {od an : Option Addr} {osl : Array (Option Value)} {kV doc pm cdv ct : Value}
    (e1 : PySem.W.nsIn K mainGlobals (Str.ofString "is_built") = some (some (.ref a)))
    (e2 : K.lookup a = some ⟨oc, od, .func (PySem.W.fnOf (Str.ofString "is_built") (Str.ofString "is_built") (defArgs (top 12)) (defBody (top 12)) (defScope (top 12)) .none kV doc pm an cdv ct), osl⟩)
    (e3 : PySem.W.codeIn K cdv (Str.ofString "is_built") = true) (e4 : PySem.W.keepIn K (.ref a) = true) : DefAt K mg gs "is_built" f_is_built :=
  def_mk X G e1 e2 e3 e4 c_is_built rfl (fun _ _ _ _ _ _ us hl => match us, hl with | [_], _ => rfl) (no_kw (by decide +kernel))
theorem c_add_rows : chkFn gs f_add_rows n_add_rows (top 13) = true := by decide +kernel
theorem d_add_rows {K : PySem.W.Frag} {mg : Str → Option Value} {h : Heap} (X : K.In h) (G : h.Ns mainGlobals mg) {a : Addr} {oc : Value} {od an : Option Addr} {osl : Array (Option Value)} {kV doc pm cdv ct : Value}
    (e1 : PySem.W.nsIn K mainGlobals (Str.ofString "add_rows") = some (some (.ref a)))
    (e2 : K.lookup a = some ⟨oc, od, .func (PySem.W.fnOf (Str.ofString "add_rows") (Str.ofString "add_rows") (defArgs (top 13)) (defBody (top 13)) (defScope (top 13)) .none kV doc pm an cdv ct), osl⟩)
    (e3 : PySem.W.codeIn K cdv (Str.ofString "add_rows") = true) (e4 : PySem.W.keepIn K (.ref a) = true) : DefAt K mg gs "add_rows" f_add_rows :=
  def_mk X G e1 e2 e3 e4 c_add_rows rfl (fun _ _ _ _ _ _ us hl => match us, hl with | [_, _, _, _], _ => rfl) (no_kw (by decide +kernel))
theorem c_rows_of : chkFn gs f_rows_of n_rows_of (top 14) = true := by decide +kernel
theorem d_rows_of {K : PySem.W.Frag} {mg : Str → Option Value} {h : Heap} (X : K.In h) (G : h.Ns mainGlobals mg) {a : Addr} {oc : Value} {od an : Option Addr} {osl : Array (Option Value)} {kV doc pm cdv ct : Value}
    (e1 : PySem.W.nsIn K mainGlobals (Str.ofString "rows_of") = some (some (.ref a)))
    (e2 : K.lookup a = some ⟨oc, od, .func (PySem.W.fnOf (Str.ofString "rows_of") (Str.ofString "rows_of") (defArgs (top 14)) (defBody (top 14)) (defScope (top 14)) .none kV doc pm an cdv ct), osl⟩)
    (e3 : PySem.W.codeIn K cdv (Str.ofString "rows_of") = true) (e4 : PySem.W.keepIn K (.ref a) = true) : DefAt K mg gs "rows_of" f_rows_of :=
  def_mk X G e1 e2 e3 e4 c_rows_of rfl (fun _ _ _ _ _ _ us hl => match us, hl with | [_], _ => rfl) (no_kw (by decide +kernel))
theorem c_pair_error : chkFn gs f_pair_error n_pair_error (top 15) = true := by decide +kernel
theorem d_pair_error {K : PySem.W.Frag} {mg : Str → Option Value} {h : Heap} (X : K.In h) (G : h.Ns mainGlobals mg) {a : Addr} {oc : Value} {od an : Option Addr} {osl : Array (Option Value)} {kV doc pm cdv ct : Value}
    (e1 : PySem.W.nsIn K mainGlobals (Str.ofString "pair_error") = some (some (.ref a)))
    (e2 : K.lookup a = some ⟨oc, od, .func (PySem.W.fnOf (Str.ofString "pair_error") (Str.ofString "pair_error") (defArgs (top 15)) (defBody (top 15)) (defScope (top 15)) .none kV doc pm an cdv ct), osl⟩)
    (e3 : PySem.W.codeIn K cdv (Str.ofString "pair_error") = true) (e4 : PySem.W.keepIn K (.ref a) = true) : DefAt K mg gs "pair_error" f_pair_error :=
  def_mk X G e1 e2 e3 e4 c_pair_error rfl (fun _ _ _ _ _ _ us hl => match us, hl with | [_, _], _ => rfl) (no_kw (by decide +kernel))
theorem c_way_error : chkFn gs f_way_error n_way_error (top 16) = true := by decide +kernel
theorem d_way_error {K : PySem.W.Frag} {mg : Str → Option Value} {h : Heap} (X : K.In h) (G : h.Ns mainGlobals mg) {a : Addr} {oc : Value} {od an : Option Addr} {osl : Array (Option Value)} {kV doc pm cdv ct : Value}
    (e1 : PySem.W.nsIn K mainGlobals (Str.ofString "way_error") = some (some (.ref a)))
    (e2 : K.lookup a = some ⟨oc, od, .func (PySem.W.fnOf (Str.ofString "way_error") (Str.ofString "way_error") (defArgs (top 16)) (defBody (top 16)) (defScope (top 16)) .none kV doc pm an cdv ct), osl⟩)
    (e3 : PySem.W.codeIn K cdv (Str.ofString "way_error") = true) (e4 : PySem.W.keepIn K (.ref a) = true) : DefAt K mg gs "way_error" f_way_error :=
  def_mk X G e1 e2 e3 e4 c_way_error rfl (fun _ _ _ _ _ _ us hl => match us, hl with | [_, _], _ => rfl) (no_kw (by decide +kernel))
theorem c_longest : chkFn gs f_longest n_longest (top 17) = true := by decide +kernel
theorem d_longest {K : PySem.W.Frag} {mg : Str → Option Value} {h : Heap} (X : K.In h) (G : h.Ns mainGlobals mg) {a : Addr} {oc : Value} {od an : Option Addr} {osl : Array (Option Value)} {kV doc pm cdv ct : Value}
    (e1 : PySem.W.nsIn K mainGlobals (Str.ofString "longest") = some (some (.ref a)))
    (e2 : K.lookup a = some ⟨oc, od, .func (PySem.W.fnOf (Str.ofString "longest") (Str.ofString "longest") (defArgs (top 17)) (defBody (top 17)) (defScope (top 17)) .none kV doc pm an cdv ct), osl⟩)
    (e3 : PySem.W.codeIn K cdv (Str.ofString "longest") = true) (e4 : PySem.W.keepIn K (.ref a) = true) : DefAt K mg gs "longest" f_longest :=
  def_mk X G e1 e2 e3 e4 c_longest rfl (fun _ _ _ _ _ _ us hl => match us, hl with | [_], _ => rfl) (no_kw (by decide +kernel))
theorem c_wanted : chkFn gs f_wanted n_wanted (top 19) = true := by decide +kernel
theorem d_wanted {K : PySem.W.Frag} {mg : Str → Option Value} {h : Heap} (X : K.In h) (G : h.Ns mainGlobals mg) {a : Addr} {oc : Value} {od an : Option Addr} {osl : Array (Option Value)} {kV doc pm cdv ct : Value}
    (e1 : PySem.W.nsIn K mainGlobals (Str.ofString "wanted") = some (some (.ref a)))
    (e2 : K.lookup a = some ⟨oc, od, .func (PySem.W.fnOf (Str.ofString "wanted") (Str.ofString "wanted") (defArgs (top 19)) (defBody (top 19)) (defScope (top 19)) .none kV doc pm an cdv ct), osl⟩)
    (e3 : PySem.W.codeIn K cdv (Str.ofString "wanted") = true) (e4 : PySem.W.keepIn K (.ref a) = true) : DefAt K mg gs "wanted" f_wanted :=
  def_mk X G e1 e2 e3 e4 c_wanted rfl (fun _ _ _ _ _ _ us hl => match us, hl with | [_, _], _ => rfl) (no_kw (by decide +kernel))
theorem c_closed_from : chkFn gs f_closed_from n_closed_from (top 20) = true := by decide +kernel
theorem d_closed_from {K : PySem.W.Frag} {mg : Str → Option Value} {h : Heap} (X : K.In h) (G : h.Ns mainGlobals mg) {a : Addr} {oc : Value} {od an : Option Addr} {osl : Array (Option Value)} {kV doc pm cdv ct : Value}
    (e1 : PySem.W.nsIn K mainGlobals (Str.ofString "closed_from") = some (some (.ref a)))
    (e2 : K.lookup a = some ⟨oc, od, .func (PySem.W.fnOf (Str.ofString "closed_from") (Str.ofString "closed_from") (defArgs (top 20)) (defBody (top 20)) (defScope (top 20)) .none kV doc pm an cdv ct), osl⟩)
    (e3 : PySem.W.codeIn K cdv (Str.ofString "closed_from") = true) (e4 : PySem.W.keepIn K (.ref a) = true) : DefAt K mg gs "closed_from" f_closed_from :=
  def_mk X G e1 e2 e3 e4 c_closed_from rfl (fun _ _ _ _ _ _ us hl => match us, hl with | [_, _], _ => rfl) (no_kw (by decide +kernel))
theorem c_closure : chkFn gs f_closure n_closure (top 21) = true := by decide +kernel
theorem d_closure {K : PySem.W.Frag} {mg : Str → Option Value} {h : Heap} (X : K.In h) (G : h.Ns mainGlobals mg) {a : Addr} {oc : Value} {od an : Option Addr} {osl : Array (Option Value)} {kV doc pm cdv ct : Value}
    (e1 : PySem.W.nsIn K mainGlobals (Str.ofString "closure") = some (some (.ref a)))
    (e2 : K.lookup a = some ⟨oc, od, .func (PySem.W.fnOf (Str.ofString "closure") (Str.ofString "closure") (defArgs (top 21)) (defBody (top 21)) (defScope (top 21)) .none kV doc pm an cdv ct), osl⟩)
    (e3 : PySem.W.codeIn K cdv (Str.ofString "closure") = true) (e4 : PySem.W.keepIn K (.ref a) = true) : DefAt K mg gs "closure" f_closure :=
  def_mk X G e1 e2 e3 e4 c_closure rfl (fun _ _ _ _ _ _ us hl => match us, hl with | [_, _, _], _ => rfl) (no_kw (by decide +kernel))
theorem c_look_at_way : chkFn gs f_look_at_way n_look_at_way (top 23) = true := by decide +kernel
theorem d_look_at_way {K : PySem.W.Frag} {mg : Str → Option Value} {h : Heap} (X : K.In h) (G : h.Ns mainGlobals mg) {a : Addr} {oc : Value} {od an : Option Addr} {osl : Array (Option Value)} {kV doc pm cdv ct : Value}
    (e1 : PySem.W.nsIn K mainGlobals (Str.ofString "look_at_way") = some (some (.ref a)))
    (e2 : K.lookup a = some ⟨oc, od, .func (PySem.W.fnOf (Str.ofString "look_at_way") (Str.ofString "look_at_way") (defArgs (top 23)) (defBody (top 23)) (defScope (top 23)) .none kV doc pm an cdv ct), osl⟩)
    (e3 : PySem.W.codeIn K cdv (Str.ofString "look_at_way") = true) (e4 : PySem.W.keepIn K (.ref a) = true) : DefAt K mg gs "look_at_way" f_look_at_way :=
  def_mk X G e1 e2 e3 e4 c_look_at_way rfl (fun _ _ _ _ _ _ us hl => match us, hl with | [_, _], _ => rfl) (no_kw (by decide +kernel))
theorem c_look_at_station : chkFn gs f_look_at_station n_look_at_station (top 24) = true := by decide +kernel
theorem d_look_at_station {K : PySem.W.Frag} {mg : Str → Option Value} {h : Heap} (X : K.In h) (G : h.Ns mainGlobals mg) {a : Addr} {oc : Value} {od an : Option Addr} {osl : Array (Option Value)} {kV doc pm cdv ct : Value}
    (e1 : PySem.W.nsIn K mainGlobals (Str.ofString "look_at_station") = some (some (.ref a)))
    (e2 : K.lookup a = some ⟨oc, od, .func (PySem.W.fnOf (Str.ofString "look_at_station") (Str.ofString "look_at_station") (defArgs (top 24)) (defBody (top 24)) (defScope (top 24)) .none kV doc pm an cdv ct), osl⟩)
    (e3 : PySem.W.codeIn K cdv (Str.ofString "look_at_station") = true) (e4 : PySem.W.keepIn K (.ref a) = true) : DefAt K mg gs "look_at_station" f_look_at_station :=
  def_mk X G e1 e2 e3 e4 c_look_at_station rfl (fun _ _ _ _ _ _ us hl => match us, hl with | [_, _, _], _ => rfl) (no_kw (by decide +kernel))
theorem c_rewayed : chkFn gs f_rewayed n_rewayed (top 25) = true := by decide +kernel
theorem d_rewayed {K : PySem.W.Frag} {mg : Str → Option Value} {h : Heap} (X : K.In h) (G : h.Ns mainGlobals mg) {a : Addr} {oc : Value} {od an : Option Addr} {osl : Array (Option Value)} {kV doc pm cdv ct : Value}
    (e1 : PySem.W.nsIn K mainGlobals (Str.ofString "rewayed") = some (some (.ref a)))
    (e2 : K.lookup a = some ⟨oc, od, .func (PySem.W.fnOf (Str.ofString "rewayed") (Str.ofString "rewayed") (defArgs (top 25)) (defBody (top 25)) (defScope (top 25)) .none kV doc pm an cdv ct), osl⟩)
    (e3 : PySem.W.codeIn K cdv (Str.ofString "rewayed") = true) (e4 : PySem.W.keepIn K (.ref a) = true) : DefAt K mg gs "rewayed" f_rewayed :=
  def_mk X G e1 e2 e3 e4 c_rewayed rfl (fun _ _ _ _ _ _ us hl => match us, hl with | [_, _, _, _], _ => rfl) (fun names ks hq => by
    have e : (("rewayed", names, ks) : String × List String × List Nat) = ("rewayed", ["way", "train", "standing", "net"], [3, 2, 1, 0]) := by simpa [gs, kw] using hq
    rcases e with e
    all_goals
      cases e
      exact fun _ _ _ _ _ _ us hl => match us, hl with | [_, _, _, _], _ => rfl)
theorem c__law_bag : chkFn gs f__law_bag n__law_bag (top 27) = true := by decide +kernel
theorem d__law_bag {K : PySem.W.Frag} {mg : Str → Option Value} {h : Heap} (X : K.In h) (G : h.Ns mainGlobals mg) {a : Addr} {oc : Value} {od an : Option Addr} {osl : Array (Option Value)} {kV doc pm cdv ct : Value}
    (e1 : PySem.W.nsIn K mainGlobals (Str.ofString "_law_bag") = some (some (.ref a)))
    (e2 : K.lookup a = some ⟨oc, od, .func (PySem.W.fnOf (Str.ofString "_law_bag") (Str.ofString "_law_bag") (defArgs (top 27)) (defBody (top 27)) (defScope (top 27)) .none kV doc pm an cdv ct), osl⟩)
    (e3 : PySem.W.codeIn K cdv (Str.ofString "_law_bag") = true) (e4 : PySem.W.keepIn K (.ref a) = true) : DefAt K mg gs "_law_bag" f__law_bag :=
  def_mk X G e1 e2 e3 e4 c__law_bag rfl (fun _ _ _ _ _ _ us hl => match us, hl with | [_], _ => rfl) (no_kw (by decide +kernel))
theorem c__law_draw : chkFn gs f__law_draw n__law_draw (top 28) = true := by decide +kernel
theorem d__law_draw {K : PySem.W.Frag} {mg : Str → Option Value} {h : Heap} (X : K.In h) (G : h.Ns mainGlobals mg) {a : Addr} {oc : Value} {od an : Option Addr} {osl : Array (Option Value)} {kV doc pm cdv ct : Value}
    (e1 : PySem.W.nsIn K mainGlobals (Str.ofString "_law_draw") = some (some (.ref a)))
    (e2 : K.lookup a = some ⟨oc, od, .func (PySem.W.fnOf (Str.ofString "_law_draw") (Str.ofString "_law_draw") (defArgs (top 28)) (defBody (top 28)) (defScope (top 28)) .none kV doc pm an cdv ct), osl⟩)
    (e3 : PySem.W.codeIn K cdv (Str.ofString "_law_draw") = true) (e4 : PySem.W.keepIn K (.ref a) = true) : DefAt K mg gs "_law_draw" f__law_draw :=
  def_mk X G e1 e2 e3 e4 c__law_draw rfl (fun _ _ _ _ _ _ us hl => match us, hl with | [_, _], _ => rfl) (no_kw (by decide +kernel))
theorem c__law_pick : chkFn gs f__law_pick n__law_pick (top 29) = true := by decide +kernel
theorem d__law_pick {K : PySem.W.Frag} {mg : Str → Option Value} {h : Heap} (X : K.In h) (G : h.Ns mainGlobals mg) {a : Addr} {oc : Value} {od an : Option Addr} {osl : Array (Option Value)} {kV doc pm cdv ct : Value}
    (e1 : PySem.W.nsIn K mainGlobals (Str.ofString "_law_pick") = some (some (.ref a)))
    (e2 : K.lookup a = some ⟨oc, od, .func (PySem.W.fnOf (Str.ofString "_law_pick") (Str.ofString "_law_pick") (defArgs (top 29)) (defBody (top 29)) (defScope (top 29)) .none kV doc pm an cdv ct), osl⟩)
    (e3 : PySem.W.codeIn K cdv (Str.ofString "_law_pick") = true) (e4 : PySem.W.keepIn K (.ref a) = true) : DefAt K mg gs "_law_pick" f__law_pick :=
  def_mk X G e1 e2 e3 e4 c__law_pick rfl (fun _ _ _ _ _ _ us hl => match us, hl with | [_, _], _ => rfl) (no_kw (by decide +kernel))
theorem c__law_mixed : chkFn gs f__law_mixed n__law_mixed (top 30) = true := by decide +kernel
theorem d__law_mixed {K : PySem.W.Frag} {mg : Str → Option Value} {h : Heap} (X : K.In h) (G : h.Ns mainGlobals mg) {a : Addr} {oc : Value} {od an : Option Addr} {osl : Array (Option Value)} {kV doc pm cdv ct : Value}
    (e1 : PySem.W.nsIn K mainGlobals (Str.ofString "_law_mixed") = some (some (.ref a)))
    (e2 : K.lookup a = some ⟨oc, od, .func (PySem.W.fnOf (Str.ofString "_law_mixed") (Str.ofString "_law_mixed") (defArgs (top 30)) (defBody (top 30)) (defScope (top 30)) .none kV doc pm an cdv ct), osl⟩)
    (e3 : PySem.W.codeIn K cdv (Str.ofString "_law_mixed") = true) (e4 : PySem.W.keepIn K (.ref a) = true) : DefAt K mg gs "_law_mixed" f__law_mixed :=
  def_mk X G e1 e2 e3 e4 c__law_mixed rfl (fun _ _ _ _ _ _ us hl => match us, hl with | [_, _], _ => rfl) (no_kw (by decide +kernel))
theorem c__law_is_whole : chkFn gs f__law_is_whole n__law_is_whole (top 31) = true := by decide +kernel
theorem d__law_is_whole {K : PySem.W.Frag} {mg : Str → Option Value} {h : Heap} (X : K.In h) (G : h.Ns mainGlobals mg) {a : Addr} {oc : Value} {od an : Option Addr} {osl : Array (Option Value)} {kV doc pm cdv ct : Value}
    (e1 : PySem.W.nsIn K mainGlobals (Str.ofString "_law_is_whole") = some (some (.ref a)))
    (e2 : K.lookup a = some ⟨oc, od, .func (PySem.W.fnOf (Str.ofString "_law_is_whole") (Str.ofString "_law_is_whole") (defArgs (top 31)) (defBody (top 31)) (defScope (top 31)) .none kV doc pm an cdv ct), osl⟩)
    (e3 : PySem.W.codeIn K cdv (Str.ofString "_law_is_whole") = true) (e4 : PySem.W.keepIn K (.ref a) = true) : DefAt K mg gs "_law_is_whole" f__law_is_whole :=
  def_mk X G e1 e2 e3 e4 c__law_is_whole rfl (fun _ _ _ _ _ _ us hl => match us, hl with | [_, _, _], _ => rfl) (no_kw (by decide +kernel))
theorem c__law_odd : chkFn gs f__law_odd n__law_odd (top 32) = true := by decide +kernel
theorem d__law_odd {K : PySem.W.Frag} {mg : Str → Option Value} {h : Heap} (X : K.In h) (G : h.Ns mainGlobals mg) {a : Addr} {oc : Value} {od an : Option Addr} {osl : Array (Option Value)} {kV doc pm cdv ct : Value}
    (e1 : PySem.W.nsIn K mainGlobals (Str.ofString "_law_odd") = some (some (.ref a)))
    (e2 : K.lookup a = some ⟨oc, od, .func (PySem.W.fnOf (Str.ofString "_law_odd") (Str.ofString "_law_odd") (defArgs (top 32)) (defBody (top 32)) (defScope (top 32)) .none kV doc pm an cdv ct), osl⟩)
    (e3 : PySem.W.codeIn K cdv (Str.ofString "_law_odd") = true) (e4 : PySem.W.keepIn K (.ref a) = true) : DefAt K mg gs "_law_odd" f__law_odd :=
  def_mk X G e1 e2 e3 e4 c__law_odd rfl (fun _ _ _ _ _ _ us hl => match us, hl with | [_], _ => rfl) (no_kw (by decide +kernel))
theorem c__law_net : chkFn gs f__law_net n__law_net (top 33) = true := by decide +kernel
theorem d__law_net {K : PySem.W.Frag} {mg : Str → Option Value} {h : Heap} (X : K.In h) (G : h.Ns mainGlobals mg) {a : Addr} {oc : Value} {od an : Option Addr} {osl : Array (Option Value)} {kV doc pm cdv ct : Value}
    (e1 : PySem.W.nsIn K mainGlobals (Str.ofString "_law_net") = some (some (.ref a)))
    (e2 : K.lookup a = some ⟨oc, od, .func (PySem.W.fnOf (Str.ofString "_law_net") (Str.ofString "_law_net") (defArgs (top 33)) (defBody (top 33)) (defScope (top 33)) .none kV doc pm an cdv ct), osl⟩)
    (e3 : PySem.W.codeIn K cdv (Str.ofString "_law_net") = true) (e4 : PySem.W.keepIn K (.ref a) = true) : DefAt K mg gs "_law_net" f__law_net :=
  def_mk X G e1 e2 e3 e4 c__law_net rfl (fun _ _ _ _ _ _ us hl => match us, hl with | [_, _], _ => rfl) (no_kw (by decide +kernel))
theorem c__law_has_round : chkFn gs f__law_has_round n__law_has_round (top 34) = true := by decide +kernel
theorem d__law_has_round {K : PySem.W.Frag} {mg : Str → Option Value} {h : Heap} (X : K.In h) (G : h.Ns mainGlobals mg) {a : Addr} {oc : Value} {od an : Option Addr} {osl : Array (Option Value)} {kV doc pm cdv ct : Value}
    (e1 : PySem.W.nsIn K mainGlobals (Str.ofString "_law_has_round") = some (some (.ref a)))
    (e2 : K.lookup a = some ⟨oc, od, .func (PySem.W.fnOf (Str.ofString "_law_has_round") (Str.ofString "_law_has_round") (defArgs (top 34)) (defBody (top 34)) (defScope (top 34)) .none kV doc pm an cdv ct), osl⟩)
    (e3 : PySem.W.codeIn K cdv (Str.ofString "_law_has_round") = true) (e4 : PySem.W.keepIn K (.ref a) = true) : DefAt K mg gs "_law_has_round" f__law_has_round :=
  def_mk X G e1 e2 e3 e4 c__law_has_round rfl (fun _ _ _ _ _ _ us hl => match us, hl with | [_, _, _], _ => rfl) (no_kw (by decide +kernel))
theorem c__law_bare : chkFn gs f__law_bare n__law_bare (top 35) = true := by decide +kernel
theorem d__law_bare {K : PySem.W.Frag} {mg : Str → Option Value} {h : Heap} (X : K.In h) (G : h.Ns mainGlobals mg) {a : Addr} {oc : Value} {od an : Option Addr} {osl : Array (Option Value)} {kV doc pm cdv ct : Value}
    (e1 : PySem.W.nsIn K mainGlobals (Str.ofString "_law_bare") = some (some (.ref a)))
    (e2 : K.lookup a = some ⟨oc, od, .func (PySem.W.fnOf (Str.ofString "_law_bare") (Str.ofString "_law_bare") (defArgs (top 35)) (defBody (top 35)) (defScope (top 35)) .none kV doc pm an cdv ct), osl⟩)
    (e3 : PySem.W.codeIn K cdv (Str.ofString "_law_bare") = true) (e4 : PySem.W.keepIn K (.ref a) = true) : DefAt K mg gs "_law_bare" f__law_bare :=
  def_mk X G e1 e2 e3 e4 c__law_bare rfl (fun _ _ _ _ _ _ us hl => match us, hl with | [_], _ => rfl) (no_kw (by decide +kernel))
theorem c__law_gated : chkFn gs f__law_gated n__law_gated (top 36) = true := by decide +kernel
theorem d__law_gated {K : PySem.W.Frag} {mg : Str → Option Value} {h : Heap} (X : K.In h) (G : h.Ns mainGlobals mg) {a : Addr} {oc : Value} {od an : Option Addr} {osl : Array (Option Value)} {kV doc pm cdv ct : Value}
    (e1 : PySem.W.nsIn K mainGlobals (Str.ofString "_law_gated") = some (some (.ref a)))
    (e2 : K.lookup a = some ⟨oc, od, .func (PySem.W.fnOf (Str.ofString "_law_gated") (Str.ofString "_law_gated") (defArgs (top 36)) (defBody (top 36)) (defScope (top 36)) .none kV doc pm an cdv ct), osl⟩)
    (e3 : PySem.W.codeIn K cdv (Str.ofString "_law_gated") = true) (e4 : PySem.W.keepIn K (.ref a) = true) : DefAt K mg gs "_law_gated" f__law_gated :=
  def_mk X G e1 e2 e3 e4 c__law_gated rfl (fun _ _ _ _ _ _ us hl => match us, hl with | [_, _], _ => rfl) (no_kw (by decide +kernel))
theorem c__law_way : chkFn gs f__law_way n__law_way (top 37) = true := by decide +kernel
theorem d__law_way {K : PySem.W.Frag} {mg : Str → Option Value} {h : Heap} (X : K.In h) (G : h.Ns mainGlobals mg) {a : Addr} {oc : Value} {od an : Option Addr} {osl : Array (Option Value)} {kV doc pm cdv ct : Value}
    (e1 : PySem.W.nsIn K mainGlobals (Str.ofString "_law_way") = some (some (.ref a)))
    (e2 : K.lookup a = some ⟨oc, od, .func (PySem.W.fnOf (Str.ofString "_law_way") (Str.ofString "_law_way") (defArgs (top 37)) (defBody (top 37)) (defScope (top 37)) .none kV doc pm an cdv ct), osl⟩)
    (e3 : PySem.W.codeIn K cdv (Str.ofString "_law_way") = true) (e4 : PySem.W.keepIn K (.ref a) = true) : DefAt K mg gs "_law_way" f__law_way :=
  def_mk X G e1 e2 e3 e4 c__law_way rfl (fun _ _ _ _ _ _ us hl => match us, hl with | [_, _, _, _, _], _ => rfl) (no_kw (by decide +kernel))
theorem c__law_counts : chkFn gs f__law_counts n__law_counts (top 38) = true := by decide +kernel
theorem d__law_counts {K : PySem.W.Frag} {mg : Str → Option Value} {h : Heap} (X : K.In h) (G : h.Ns mainGlobals mg) {a : Addr} {oc : Value} {od an : Option Addr} {osl : Array (Option Value)} {kV doc pm cdv ct : Value}
    (e1 : PySem.W.nsIn K mainGlobals (Str.ofString "_law_counts") = some (some (.ref a)))
    (e2 : K.lookup a = some ⟨oc, od, .func (PySem.W.fnOf (Str.ofString "_law_counts") (Str.ofString "_law_counts") (defArgs (top 38)) (defBody (top 38)) (defScope (top 38)) .none kV doc pm an cdv ct), osl⟩)
    (e3 : PySem.W.codeIn K cdv (Str.ofString "_law_counts") = true) (e4 : PySem.W.keepIn K (.ref a) = true) : DefAt K mg gs "_law_counts" f__law_counts :=
  def_mk X G e1 e2 e3 e4 c__law_counts rfl (fun _ _ _ _ _ _ us hl => match us, hl with | [_, _], _ => rfl) (no_kw (by decide +kernel))
theorem c__law_standing : chkFn gs f__law_standing n__law_standing (top 39) = true := by decide +kernel
theorem d__law_standing {K : PySem.W.Frag} {mg : Str → Option Value} {h : Heap} (X : K.In h) (G : h.Ns mainGlobals mg) {a : Addr} {oc : Value} {od an : Option Addr} {osl : Array (Option Value)} {kV doc pm cdv ct : Value}
    (e1 : PySem.W.nsIn K mainGlobals (Str.ofString "_law_standing") = some (some (.ref a)))
    (e2 : K.lookup a = some ⟨oc, od, .func (PySem.W.fnOf (Str.ofString "_law_standing") (Str.ofString "_law_standing") (defArgs (top 39)) (defBody (top 39)) (defScope (top 39)) .none kV doc pm an cdv ct), osl⟩)
    (e3 : PySem.W.codeIn K cdv (Str.ofString "_law_standing") = true) (e4 : PySem.W.keepIn K (.ref a) = true) : DefAt K mg gs "_law_standing" f__law_standing :=
  def_mk X G e1 e2 e3 e4 c__law_standing rfl (fun _ _ _ _ _ _ us hl => match us, hl with | [_, _, _], _ => rfl) (no_kw (by decide +kernel))
theorem c__law_least : chkFn gs f__law_least n__law_least (top 40) = true := by decide +kernel
theorem d__law_least {K : PySem.W.Frag} {mg : Str → Option Value} {h : Heap} (X : K.In h) (G : h.Ns mainGlobals mg) {a : Addr} {oc : Value} {od an : Option Addr} {osl : Array (Option Value)} {kV doc pm cdv ct : Value}
    (e1 : PySem.W.nsIn K mainGlobals (Str.ofString "_law_least") = some (some (.ref a)))
    (e2 : K.lookup a = some ⟨oc, od, .func (PySem.W.fnOf (Str.ofString "_law_least") (Str.ofString "_law_least") (defArgs (top 40)) (defBody (top 40)) (defScope (top 40)) .none kV doc pm an cdv ct), osl⟩)
    (e3 : PySem.W.codeIn K cdv (Str.ofString "_law_least") = true) (e4 : PySem.W.keepIn K (.ref a) = true) : DefAt K mg gs "_law_least" f__law_least :=
  def_mk X G e1 e2 e3 e4 c__law_least rfl (fun _ _ _ _ _ _ us hl => match us, hl with | [_, _, _], _ => rfl) (no_kw (by decide +kernel))
theorem c__law_is_built : chkFn gs f__law_is_built n__law_is_built (top 41) = true := by decide +kernel
theorem d__law_is_built {K : PySem.W.Frag} {mg : Str → Option Value} {h : Heap} (X : K.In h) (G : h.Ns mainGlobals mg) {a : Addr} {oc : Value} {od an : Option Addr} {osl : Array (Option Value)} {kV doc pm cdv ct : Value}
    (e1 : PySem.W.nsIn K mainGlobals (Str.ofString "_law_is_built") = some (some (.ref a)))
    (e2 : K.lookup a = some ⟨oc, od, .func (PySem.W.fnOf (Str.ofString "_law_is_built") (Str.ofString "_law_is_built") (defArgs (top 41)) (defBody (top 41)) (defScope (top 41)) .none kV doc pm an cdv ct), osl⟩)
    (e3 : PySem.W.codeIn K cdv (Str.ofString "_law_is_built") = true) (e4 : PySem.W.keepIn K (.ref a) = true) : DefAt K mg gs "_law_is_built" f__law_is_built :=
  def_mk X G e1 e2 e3 e4 c__law_is_built rfl (fun _ _ _ _ _ _ us hl => match us, hl with | [_], _ => rfl) (no_kw (by decide +kernel))
theorem c__law_pairs : chkFn gs f__law_pairs n__law_pairs (top 42) = true := by decide +kernel
theorem d__law_pairs {K : PySem.W.Frag} {mg : Str → Option Value} {h : Heap} (X : K.In h) (G : h.Ns mainGlobals mg) {a : Addr} {oc : Value} {od an : Option Addr} {osl : Array (Option Value)} {kV doc pm cdv ct : Value}
    (e1 : PySem.W.nsIn K mainGlobals (Str.ofString "_law_pairs") = some (some (.ref a)))
    (e2 : K.lookup a = some ⟨oc, od, .func (PySem.W.fnOf (Str.ofString "_law_pairs") (Str.ofString "_law_pairs") (defArgs (top 42)) (defBody (top 42)) (defScope (top 42)) .none kV doc pm an cdv ct), osl⟩)
    (e3 : PySem.W.codeIn K cdv (Str.ofString "_law_pairs") = true) (e4 : PySem.W.keepIn K (.ref a) = true) : DefAt K mg gs "_law_pairs" f__law_pairs :=
  def_mk X G e1 e2 e3 e4 c__law_pairs rfl (fun _ _ _ _ _ _ us hl => match us, hl with | [_, _, _, _], _ => rfl) (no_kw (by decide +kernel))
theorem c__law_way_slip : chkFn gs f__law_way_slip n__law_way_slip (top 43) = true := by decide +kernel
theorem d__law_way_slip {K : PySem.W.Frag} {mg : Str → Option Value} {h : Heap} (X : K.In h) (G : h.Ns mainGlobals mg) {a : Addr} {oc : Value} {od an : Option Addr} {osl : Array (Option Value)} {kV doc pm cdv ct : Value}
    (e1 : PySem.W.nsIn K mainGlobals (Str.ofString "_law_way_slip") = some (some (.ref a)))
    (e2 : K.lookup a = some ⟨oc, od, .func (PySem.W.fnOf (Str.ofString "_law_way_slip") (Str.ofString "_law_way_slip") (defArgs (top 43)) (defBody (top 43)) (defScope (top 43)) .none kV doc pm an cdv ct), osl⟩)
    (e3 : PySem.W.codeIn K cdv (Str.ofString "_law_way_slip") = true) (e4 : PySem.W.keepIn K (.ref a) = true) : DefAt K mg gs "_law_way_slip" f__law_way_slip :=
  def_mk X G e1 e2 e3 e4 c__law_way_slip rfl (fun _ _ _ _ _ _ us hl => match us, hl with | [_, _], _ => rfl) (no_kw (by decide +kernel))
theorem c__law_bent : chkFn gs f__law_bent n__law_bent (top 44) = true := by decide +kernel
theorem d__law_bent {K : PySem.W.Frag} {mg : Str → Option Value} {h : Heap} (X : K.In h) (G : h.Ns mainGlobals mg) {a : Addr} {oc : Value} {od an : Option Addr} {osl : Array (Option Value)} {kV doc pm cdv ct : Value}
    (e1 : PySem.W.nsIn K mainGlobals (Str.ofString "_law_bent") = some (some (.ref a)))
    (e2 : K.lookup a = some ⟨oc, od, .func (PySem.W.fnOf (Str.ofString "_law_bent") (Str.ofString "_law_bent") (defArgs (top 44)) (defBody (top 44)) (defScope (top 44)) .none kV doc pm an cdv ct), osl⟩)
    (e3 : PySem.W.codeIn K cdv (Str.ofString "_law_bent") = true) (e4 : PySem.W.keepIn K (.ref a) = true) : DefAt K mg gs "_law_bent" f__law_bent :=
  def_mk X G e1 e2 e3 e4 c__law_bent rfl (fun _ _ _ _ _ _ us hl => match us, hl with | [_, _, _], _ => rfl) (no_kw (by decide +kernel))
theorem c__law_rewayed_due : chkFn gs f__law_rewayed_due n__law_rewayed_due (top 45) = true := by decide +kernel
theorem d__law_rewayed_due {K : PySem.W.Frag} {mg : Str → Option Value} {h : Heap} (X : K.In h) (G : h.Ns mainGlobals mg) {a : Addr} {oc : Value} {od an : Option Addr} {osl : Array (Option Value)} {kV doc pm cdv ct : Value}
    (e1 : PySem.W.nsIn K mainGlobals (Str.ofString "_law_rewayed_due") = some (some (.ref a)))
    (e2 : K.lookup a = some ⟨oc, od, .func (PySem.W.fnOf (Str.ofString "_law_rewayed_due") (Str.ofString "_law_rewayed_due") (defArgs (top 45)) (defBody (top 45)) (defScope (top 45)) .none kV doc pm an cdv ct), osl⟩)
    (e3 : PySem.W.codeIn K cdv (Str.ofString "_law_rewayed_due") = true) (e4 : PySem.W.keepIn K (.ref a) = true) : DefAt K mg gs "_law_rewayed_due" f__law_rewayed_due :=
  def_mk X G e1 e2 e3 e4 c__law_rewayed_due rfl (fun _ _ _ _ _ _ us hl => match us, hl with | [_, _, _, _], _ => rfl) (no_kw (by decide +kernel))
theorem c__law_heard : chkFn gs f__law_heard n__law_heard (top 46) = true := by decide +kernel
theorem d__law_heard {K : PySem.W.Frag} {mg : Str → Option Value} {h : Heap} (X : K.In h) (G : h.Ns mainGlobals mg) {a : Addr} {oc : Value} {od an : Option Addr} {osl : Array (Option Value)} {kV doc pm cdv ct : Value}
    (e1 : PySem.W.nsIn K mainGlobals (Str.ofString "_law_heard") = some (some (.ref a)))
    (e2 : K.lookup a = some ⟨oc, od, .func (PySem.W.fnOf (Str.ofString "_law_heard") (Str.ofString "_law_heard") (defArgs (top 46)) (defBody (top 46)) (defScope (top 46)) .none kV doc pm an cdv ct), osl⟩)
    (e3 : PySem.W.codeIn K cdv (Str.ofString "_law_heard") = true) (e4 : PySem.W.keepIn K (.ref a) = true) : DefAt K mg gs "_law_heard" f__law_heard :=
  def_mk X G e1 e2 e3 e4 c__law_heard rfl (fun _ _ _ _ _ _ us hl => match us, hl with | [_, _, _, _, _], _ => rfl) (no_kw (by decide +kernel))
theorem c__law_is_right : chkFn gs f__law_is_right n__law_is_right (top 47) = true := by decide +kernel
theorem d__law_is_right {K : PySem.W.Frag} {mg : Str → Option Value} {h : Heap} (X : K.In h) (G : h.Ns mainGlobals mg) {a : Addr} {oc : Value} {od an : Option Addr} {osl : Array (Option Value)} {kV doc pm cdv ct : Value}
    (e1 : PySem.W.nsIn K mainGlobals (Str.ofString "_law_is_right") = some (some (.ref a)))
    (e2 : K.lookup a = some ⟨oc, od, .func (PySem.W.fnOf (Str.ofString "_law_is_right") (Str.ofString "_law_is_right") (defArgs (top 47)) (defBody (top 47)) (defScope (top 47)) .none kV doc pm an cdv ct), osl⟩)
    (e3 : PySem.W.codeIn K cdv (Str.ofString "_law_is_right") = true) (e4 : PySem.W.keepIn K (.ref a) = true) : DefAt K mg gs "_law_is_right" f__law_is_right :=
  def_mk X G e1 e2 e3 e4 c__law_is_right rfl (fun _ _ _ _ _ _ us hl => match us, hl with | [_, _, _, _, _], _ => rfl) (no_kw (by decide +kernel))
theorem c_law : chkFn gs f_law n_law (top 48) = true := by decide +kernel
theorem d_law {K : PySem.W.Frag} {mg : Str → Option Value} {h : Heap} (X : K.In h) (G : h.Ns mainGlobals mg) {a : Addr} {oc : Value} {od an : Option Addr} {osl : Array (Option Value)} {kV doc pm cdv ct : Value}
    (e1 : PySem.W.nsIn K mainGlobals (Str.ofString "law") = some (some (.ref a)))
    (e2 : K.lookup a = some ⟨oc, od, .func (PySem.W.fnOf (Str.ofString "law") (Str.ofString "law") (defArgs (top 48)) (defBody (top 48)) (defScope (top 48)) .none kV doc pm an cdv ct), osl⟩)
    (e3 : PySem.W.codeIn K cdv (Str.ofString "law") = true) (e4 : PySem.W.keepIn K (.ref a) = true) : DefAt K mg gs "law" f_law :=
  def_mk X G e1 e2 e3 e4 c_law rfl (fun _ _ _ _ _ _ us hl => match us, hl with | [_], _ => rfl) (no_kw (by decide +kernel))
theorem all_mk {P : Program} {K : PySem.W.Frag} {h : Heap} {mg : Str → Option Value} (X : K.In h) (G : h.Ns mainGlobals mg) {C0 C1 C2 C3 : Addr} {gv_MAX_CHOICES gv_MAX_STEPS gv_MAX_PAIRS : Tok}
    {nmC1 qC1 : Str} {NC1 : Addr} {bsC1 bmC1 : List Value} {snC1 : List Str} {sbC1 : List Value} {abC1 : Bool} {clC1 : Option Bool} {ddC1 : Option Addr} {k0C1 k1C1 k2C1 k3C1 k5C1 : Option Value} {fIC1 daC1 ccC1 : Addr} {ocC1 kVC1 dcC1 pmC1 ctC1 u0C1 v0C1 : Value} {odC1 anC1 u1C1 v1C1 : Option Addr} {slC1 u2C1 v3C1 : Array (Option Value)} {v2C1 : Array Value} {v4C1 : Str} {v5C1 : Tok}
    {nmC2 qC2 : Str} {NC2 : Addr} {bsC2 bmC2 : List Value} {snC2 : List Str} {sbC2 : List Value} {abC2 : Bool} {clC2 : Option Bool} {ddC2 : Option Addr} {k0C2 k1C2 k2C2 k3C2 k5C2 : Option Value} {fIC2 daC2 ccC2 : Addr} {ocC2 kVC2 dcC2 pmC2 ctC2 u0C2 v0C2 : Value} {odC2 anC2 u1C2 v1C2 : Option Addr} {slC2 u2C2 v3C2 : Array (Option Value)} {v2C2 : Array Value} {v4C2 : Str} {v5C2 : Tok}
    {nmC3 qC3 : Str} {NC3 : Addr} {bsC3 bmC3 : List Value} {snC3 : List Str} {sbC3 : List Value} {abC3 : Bool} {clC3 : Option Bool} {ddC3 : Option Addr} {k0C3 k1C3 k2C3 k3C3 k5C3 : Option Value} {fIC3 daC3 ccC3 : Addr} {ocC3 kVC3 dcC3 pmC3 ctC3 u0C3 v0C3 : Value} {odC3 anC3 u1C3 v1C3 : Option Addr} {slC3 u2C3 v3C3 : Array (Option Value)} {v2C3 : Array Value} {v4C3 : Str} {v5C3 : Tok}
    {a_is_integer : Addr} {oc_is_integer kV_is_integer doc_is_integer pm_is_integer cdv_is_integer ct_is_integer : Value} {od_is_integer an_is_integer : Option Addr} {osl_is_integer : Array (Option Value)}
    {a_is_number_below : Addr} {oc_is_number_below kV_is_number_below doc_is_number_below pm_is_number_below cdv_is_number_below ct_is_number_below : Value} {od_is_number_below an_is_number_below : Option Addr} {osl_is_number_below : Array (Option Value)}
    {a_is_built : Addr} {oc_is_built kV_is_built doc_is_built pm_is_built cdv_is_built ct_is_built : Value} {od_is_built an_is_built : Option Addr} {osl_is_built : Array (Option Value)}
    {a_add_rows : Addr} {oc_add_rows kV_add_rows doc_add_rows pm_add_rows cdv_add_rows ct_add_rows : Value} {od_add_rows an_add_rows : Option Addr} {osl_add_rows : Array (Option Value)}
    {a_rows_of : Addr} {oc_rows_of kV_rows_of doc_rows_of pm_rows_of cdv_rows_of ct_rows_of : Value} {od_rows_of an_rows_of : Option Addr} {osl_rows_of : Array (Option Value)}
    {a_pair_error : Addr} {oc_pair_error kV_pair_error doc_pair_error pm_pair_error cdv_pair_error ct_pair_error : Value} {od_pair_error an_pair_error : Option Addr} {osl_pair_error : Array (Option Value)}
    {a_way_error : Addr} {oc_way_error kV_way_error doc_way_error pm_way_error cdv_way_error ct_way_error : Value} {od_way_error an_way_error : Option Addr} {osl_way_error : Array (Option Value)}
    {a_longest : Addr} {oc_longest kV_longest doc_longest pm_longest cdv_longest ct_longest : Value} {od_longest an_longest : Option Addr} {osl_longest : Array (Option Value)}
    {a_wanted : Addr} {oc_wanted kV_wanted doc_wanted pm_wanted cdv_wanted ct_wanted : Value} {od_wanted an_wanted : Option Addr} {osl_wanted : Array (Option Value)}
    {a_closed_from : Addr} {oc_closed_from kV_closed_from doc_closed_from pm_closed_from cdv_closed_from ct_closed_from : Value} {od_closed_from an_closed_from : Option Addr} {osl_closed_from : Array (Option Value)}
    {a_closure : Addr} {oc_closure kV_closure doc_closure pm_closure cdv_closure ct_closure : Value} {od_closure an_closure : Option Addr} {osl_closure : Array (Option Value)}
    {a_look_at_way : Addr} {oc_look_at_way kV_look_at_way doc_look_at_way pm_look_at_way cdv_look_at_way ct_look_at_way : Value} {od_look_at_way an_look_at_way : Option Addr} {osl_look_at_way : Array (Option Value)}
    {a_look_at_station : Addr} {oc_look_at_station kV_look_at_station doc_look_at_station pm_look_at_station cdv_look_at_station ct_look_at_station : Value} {od_look_at_station an_look_at_station : Option Addr} {osl_look_at_station : Array (Option Value)}
    {a_rewayed : Addr} {oc_rewayed kV_rewayed doc_rewayed pm_rewayed cdv_rewayed ct_rewayed : Value} {od_rewayed an_rewayed : Option Addr} {osl_rewayed : Array (Option Value)}
    {a__law_bag : Addr} {oc__law_bag kV__law_bag doc__law_bag pm__law_bag cdv__law_bag ct__law_bag : Value} {od__law_bag an__law_bag : Option Addr} {osl__law_bag : Array (Option Value)}
    {a__law_draw : Addr} {oc__law_draw kV__law_draw doc__law_draw pm__law_draw cdv__law_draw ct__law_draw : Value} {od__law_draw an__law_draw : Option Addr} {osl__law_draw : Array (Option Value)}
    {a__law_pick : Addr} {oc__law_pick kV__law_pick doc__law_pick pm__law_pick cdv__law_pick ct__law_pick : Value} {od__law_pick an__law_pick : Option Addr} {osl__law_pick : Array (Option Value)}
    {a__law_mixed : Addr} {oc__law_mixed kV__law_mixed doc__law_mixed pm__law_mixed cdv__law_mixed ct__law_mixed : Value} {od__law_mixed an__law_mixed : Option Addr} {osl__law_mixed : Array (Option Value)}
    {a__law_is_whole : Addr} {oc__law_is_whole kV__law_is_whole doc__law_is_whole pm__law_is_whole cdv__law_is_whole ct__law_is_whole : Value} {od__law_is_whole an__law_is_whole : Option Addr} {osl__law_is_whole : Array (Option Value)}
    {a__law_odd : Addr} {oc__law_odd kV__law_odd doc__law_odd pm__law_odd cdv__law_odd ct__law_odd : Value} {od__law_odd an__law_odd : Option Addr} {osl__law_odd : Array (Option Value)}
    {a__law_net : Addr} {oc__law_net kV__law_net doc__law_net pm__law_net cdv__law_net ct__law_net : Value} {od__law_net an__law_net : Option Addr} {osl__law_net : Array (Option Value)}
    {a__law_has_round : Addr} {oc__law_has_round kV__law_has_round doc__law_has_round pm__law_has_round cdv__law_has_round ct__law_has_round : Value} {od__law_has_round an__law_has_round : Option Addr} {osl__law_has_round : Array (Option Value)}
    {a__law_bare : Addr} {oc__law_bare kV__law_bare doc__law_bare pm__law_bare cdv__law_bare ct__law_bare : Value} {od__law_bare an__law_bare : Option Addr} {osl__law_bare : Array (Option Value)}
    {a__law_gated : Addr} {oc__law_gated kV__law_gated doc__law_gated pm__law_gated cdv__law_gated ct__law_gated : Value} {od__law_gated an__law_gated : Option Addr} {osl__law_gated : Array (Option Value)}
    {a__law_way : Addr} {oc__law_way kV__law_way doc__law_way pm__law_way cdv__law_way ct__law_way : Value} {od__law_way an__law_way : Option Addr} {osl__law_way : Array (Option Value)}
    {a__law_counts : Addr} {oc__law_counts kV__law_counts doc__law_counts pm__law_counts cdv__law_counts ct__law_counts : Value} {od__law_counts an__law_counts : Option Addr} {osl__law_counts : Array (Option Value)}
    {a__law_standing : Addr} {oc__law_standing kV__law_standing doc__law_standing pm__law_standing cdv__law_standing ct__law_standing : Value} {od__law_standing an__law_standing : Option Addr} {osl__law_standing : Array (Option Value)}
    {a__law_least : Addr} {oc__law_least kV__law_least doc__law_least pm__law_least cdv__law_least ct__law_least : Value} {od__law_least an__law_least : Option Addr} {osl__law_least : Array (Option Value)}
    {a__law_is_built : Addr} {oc__law_is_built kV__law_is_built doc__law_is_built pm__law_is_built cdv__law_is_built ct__law_is_built : Value} {od__law_is_built an__law_is_built : Option Addr} {osl__law_is_built : Array (Option Value)}
    {a__law_pairs : Addr} {oc__law_pairs kV__law_pairs doc__law_pairs pm__law_pairs cdv__law_pairs ct__law_pairs : Value} {od__law_pairs an__law_pairs : Option Addr} {osl__law_pairs : Array (Option Value)}
    {a__law_way_slip : Addr} {oc__law_way_slip kV__law_way_slip doc__law_way_slip pm__law_way_slip cdv__law_way_slip ct__law_way_slip : Value} {od__law_way_slip an__law_way_slip : Option Addr} {osl__law_way_slip : Array (Option Value)}
    {a__law_bent : Addr} {oc__law_bent kV__law_bent doc__law_bent pm__law_bent cdv__law_bent ct__law_bent : Value} {od__law_bent an__law_bent : Option Addr} {osl__law_bent : Array (Option Value)}
    {a__law_rewayed_due : Addr} {oc__law_rewayed_due kV__law_rewayed_due doc__law_rewayed_due pm__law_rewayed_due cdv__law_rewayed_due ct__law_rewayed_due : Value} {od__law_rewayed_due an__law_rewayed_due : Option Addr} {osl__law_rewayed_due : Array (Option Value)}
    {a__law_heard : Addr} {oc__law_heard kV__law_heard doc__law_heard pm__law_heard cdv__law_heard ct__law_heard : Value} {od__law_heard an__law_heard : Option Addr} {osl__law_heard : Array (Option Value)}
    {a__law_is_right : Addr} {oc__law_is_right kV__law_is_right doc__law_is_right pm__law_is_right cdv__law_is_right ct__law_is_right : Value} {od__law_is_right an__law_is_right : Option Addr} {osl__law_is_right : Array (Option Value)}
    {a_law : Addr} {oc_law kV_law doc_law pm_law cdv_law ct_law : Value} {od_law an_law : Option Addr} {osl_law : Array (Option Value)}
    (a_C0 : PySem.W.nsIn K mainGlobals (Str.ofString "OfficeError") = some (some (.ref C0)))
    (t_C0 : PySem.W.typeIn K (.ref C0) = some (.type "type"))
    (g_C0 : PySem.W.findIn K (.ref C0) "__getattribute__" = some (some (.builtin "BaseException.__getattribute__")))
    (h_C0 : PySem.W.findIn K (.ref C0) "__getattr__" = some none)
    (s_C0 : PySem.W.subIn K (.ref C0) (.type "BaseException") = some true)
    (d_C0 : PySem.W.hasDictIn K C0 = true)
    (c_C0 : PySem.W.findIn K (.ref C0) "__class__" = some (some (.builtin "object.__class__")))
    (m_C0 : PySem.W.mroIn K C0 (.type "object") = some true)
    (a_C1 : PySem.W.nsIn K mainGlobals (Str.ofString "Unfit") = some (some (.ref C1)))
    (t_C1 : PySem.W.typeIn K (.ref C1) = some (.type "type"))
    (g_C1 : PySem.W.findIn K (.ref C1) "__getattribute__" = some (some (.builtin "BaseException.__getattribute__")))
    (h_C1 : PySem.W.findIn K (.ref C1) "__getattr__" = some none)
    (s_C1 : PySem.W.subIn K (.ref C1) (.type "BaseException") = some true)
    (d_C1 : PySem.W.hasDictIn K C1 = true)
    (c_C1 : PySem.W.findIn K (.ref C1) "__class__" = some (some (.builtin "object.__class__")))
    (m_C1 : PySem.W.mroIn K C1 (.type "object") = some true)
    (x_C1 : K.lookup C1 = some (excClassObj nmC1 qC1 C1 NC1 bsC1 bmC1 true snC1 sbC1 abC1 clC1 ddC1 k0C1 k1C1 k2C1 k3C1 k5C1 "ValueError.__new__"))
    (b_C1 : PySem.HandSPX.refsVE bmC1 = true)
    (w_C1 : PySem.W.findIn K (.ref C1) "__setattr__" = some (some (.builtin "object.__setattr__")))
    (k_C1 : PySem.W.keepIn K (.ref C1) = true)
    (i_C1 : PySem.W.findIn K (.ref C1) "__init__" = some (some (.ref fIC1)))
    (l_C1 : K.lookup fIC1 = some ⟨ocC1, odC1, .func (initFn (Str.ofString "Unfit.__init__") (inClass (top 5) 0) kVC1 dcC1 pmC1 anC1 daC1 ctC1 ccC1), slC1⟩)
    (o_C1 : PySem.W.codeIn K (.ref daC1) (Str.ofString "Unfit.__init__") = true)
    (e_C1 : K.lookup ccC1 = some ⟨u0C1, u1C1, .cell (some (.ref C1)), u2C1⟩)
    (n_C1 : K.lookup daC1 = some ⟨v0C1, v1C1, .fields v2C1, v3C1⟩)
    (p_C1 : v2C1[2]? = some (.str v4C1 v5C1))
    (q_C1 : ((P.main.file : Str) == v4C1) = true)
    (r_C1 : PySem.W.ks_superIn K C1 C1 "__init__" = some (some (.builtin "ValueError.__init__")))
    (y_C1 : PySem.W.mroIn K C1 (.ref C1) = some true)
    (z_C1 : PySem.W.subIn K (.ref C1) (.type "ValueError") = some true)
    (j_C1 : PySem.W.typeIn K (.ref fIC1) = some (.type "function"))
    (a_C2 : PySem.W.nsIn K mainGlobals (Str.ofString "BadWay") = some (some (.ref C2)))
    (t_C2 : PySem.W.typeIn K (.ref C2) = some (.type "type"))
    (g_C2 : PySem.W.findIn K (.ref C2) "__getattribute__" = some (some (.builtin "BaseException.__getattribute__")))
    (h_C2 : PySem.W.findIn K (.ref C2) "__getattr__" = some none)
    (s_C2 : PySem.W.subIn K (.ref C2) (.type "BaseException") = some true)
    (d_C2 : PySem.W.hasDictIn K C2 = true)
    (c_C2 : PySem.W.findIn K (.ref C2) "__class__" = some (some (.builtin "object.__class__")))
    (m_C2 : PySem.W.mroIn K C2 (.type "object") = some true)
    (f_C2 : PySem.W.findIn K (.ref C2) (Str.ofString "error") = some none)
    (x_C2 : K.lookup C2 = some (excClassObj nmC2 qC2 C2 NC2 bsC2 bmC2 true snC2 sbC2 abC2 clC2 ddC2 k0C2 k1C2 k2C2 k3C2 k5C2 "ValueError.__new__"))
    (b_C2 : PySem.HandSPX.refsVE bmC2 = true)
    (w_C2 : PySem.W.findIn K (.ref C2) "__setattr__" = some (some (.builtin "object.__setattr__")))
    (k_C2 : PySem.W.keepIn K (.ref C2) = true)
    (i_C2 : PySem.W.findIn K (.ref C2) "__init__" = some (some (.ref fIC2)))
    (l_C2 : K.lookup fIC2 = some ⟨ocC2, odC2, .func (initFn (Str.ofString "BadWay.__init__") (inClass (top 6) 0) kVC2 dcC2 pmC2 anC2 daC2 ctC2 ccC2), slC2⟩)
    (o_C2 : PySem.W.codeIn K (.ref daC2) (Str.ofString "BadWay.__init__") = true)
    (e_C2 : K.lookup ccC2 = some ⟨u0C2, u1C2, .cell (some (.ref C2)), u2C2⟩)
    (n_C2 : K.lookup daC2 = some ⟨v0C2, v1C2, .fields v2C2, v3C2⟩)
    (p_C2 : v2C2[2]? = some (.str v4C2 v5C2))
    (q_C2 : ((P.main.file : Str) == v4C2) = true)
    (r_C2 : PySem.W.ks_superIn K C2 C2 "__init__" = some (some (.builtin "ValueError.__init__")))
    (y_C2 : PySem.W.mroIn K C2 (.ref C2) = some true)
    (z_C2 : PySem.W.subIn K (.ref C2) (.type "ValueError") = some true)
    (j_C2 : PySem.W.typeIn K (.ref fIC2) = some (.type "function"))
    (a_C3 : PySem.W.nsIn K mainGlobals (Str.ofString "Refused") = some (some (.ref C3)))
    (t_C3 : PySem.W.typeIn K (.ref C3) = some (.type "type"))
    (g_C3 : PySem.W.findIn K (.ref C3) "__getattribute__" = some (some (.builtin "BaseException.__getattribute__")))
    (h_C3 : PySem.W.findIn K (.ref C3) "__getattr__" = some none)
    (s_C3 : PySem.W.subIn K (.ref C3) (.type "BaseException") = some true)
    (d_C3 : PySem.W.hasDictIn K C3 = true)
    (c_C3 : PySem.W.findIn K (.ref C3) "__class__" = some (some (.builtin "object.__class__")))
    (m_C3 : PySem.W.mroIn K C3 (.type "object") = some true)
    (f_C3 : PySem.W.findIn K (.ref C3) (Str.ofString "lot") = some none)
    (x_C3 : K.lookup C3 = some (excClassObj nmC3 qC3 C3 NC3 bsC3 bmC3 true snC3 sbC3 abC3 clC3 ddC3 k0C3 k1C3 k2C3 k3C3 k5C3 "ValueError.__new__"))
    (b_C3 : PySem.HandSPX.refsVE bmC3 = true)
    (w_C3 : PySem.W.findIn K (.ref C3) "__setattr__" = some (some (.builtin "object.__setattr__")))
    (k_C3 : PySem.W.keepIn K (.ref C3) = true)
    (i_C3 : PySem.W.findIn K (.ref C3) "__init__" = some (some (.ref fIC3)))
    (l_C3 : K.lookup fIC3 = some ⟨ocC3, odC3, .func (initFn (Str.ofString "Refused.__init__") (inClass (top 7) 0) kVC3 dcC3 pmC3 anC3 daC3 ctC3 ccC3), slC3⟩)
    (o_C3 : PySem.W.codeIn K (.ref daC3) (Str.ofString "Refused.__init__") = true)
    (e_C3 : K.lookup ccC3 = some ⟨u0C3, u1C3, .cell (some (.ref C3)), u2C3⟩)
    (n_C3 : K.lookup daC3 = some ⟨v0C3, v1C3, .fields v2C3, v3C3⟩)
    (p_C3 : v2C3[2]? = some (.str v4C3 v5C3))
    (q_C3 : ((P.main.file : Str) == v4C3) = true)
    (r_C3 : PySem.W.ks_superIn K C3 C3 "__init__" = some (some (.builtin "ValueError.__init__")))
    (y_C3 : PySem.W.mroIn K C3 (.ref C3) = some true)
    (z_C3 : PySem.W.subIn K (.ref C3) (.type "ValueError") = some true)
    (j_C3 : PySem.W.typeIn K (.ref fIC3) = some (.type "function"))
    (hn : PySem.W.specialIn K (.builtin "object.__class__") "__get__" = some (some (.builtin "getset_descriptor.__get__")))
    (ht : PySem.W.takesIn K (.builtin "object.__class__") = some true)
    (su : PySem.W.nsIn K mainGlobals "super" = some none)
    (oq : PySem.W.nsIn K cStatics "thirdparty.any" = some none)
    (tp : (P.main.scope.names.lookup ("super" : Str)).isSome = false)
    (s0_0 : PySem.W.subIn K (.ref C0) (.ref C0) = some true)
    (s0_1 : PySem.W.subIn K (.ref C0) (.ref C1) = some false)
    (s0_2 : PySem.W.subIn K (.ref C0) (.ref C2) = some false)
    (s0_3 : PySem.W.subIn K (.ref C0) (.ref C3) = some false)
    (s1_0 : PySem.W.subIn K (.ref C1) (.ref C0) = some true)
    (s1_1 : PySem.W.subIn K (.ref C1) (.ref C1) = some true)
    (s1_2 : PySem.W.subIn K (.ref C1) (.ref C2) = some false)
    (s1_3 : PySem.W.subIn K (.ref C1) (.ref C3) = some false)
    (s2_0 : PySem.W.subIn K (.ref C2) (.ref C0) = some true)
    (s2_1 : PySem.W.subIn K (.ref C2) (.ref C1) = some false)
    (s2_2 : PySem.W.subIn K (.ref C2) (.ref C2) = some true)
    (s2_3 : PySem.W.subIn K (.ref C2) (.ref C3) = some false)
    (s3_0 : PySem.W.subIn K (.ref C3) (.ref C0) = some true)
    (s3_1 : PySem.W.subIn K (.ref C3) (.ref C1) = some false)
    (s3_2 : PySem.W.subIn K (.ref C3) (.ref C2) = some false)
    (s3_3 : PySem.W.subIn K (.ref C3) (.ref C3) = some true)
    (bn_len : PySem.W.nsIn K mainGlobals (Str.ofString "len") = some none)
    (bn_int : PySem.W.nsIn K mainGlobals (Str.ofString "int") = some none)
    (bn_abs : PySem.W.nsIn K mainGlobals (Str.ofString "abs") = some none)
    (bn_repr : PySem.W.nsIn K mainGlobals (Str.ofString "repr") = some none)
    (bn_tuple : PySem.W.nsIn K mainGlobals (Str.ofString "tuple") = some none)
    (bn_list : PySem.W.nsIn K mainGlobals (Str.ofString "list") = some none)
    (bn_sorted : PySem.W.nsIn K mainGlobals (Str.ofString "sorted") = some none)
    (bn_set : PySem.W.nsIn K mainGlobals (Str.ofString "set") = some none)
    (bn_sum : PySem.W.nsIn K mainGlobals (Str.ofString "sum") = some none)
    (bn_max : PySem.W.nsIn K mainGlobals (Str.ofString "max") = some none)
    (bn_min : PySem.W.nsIn K mainGlobals (Str.ofString "min") = some none)
    (bn_all : PySem.W.nsIn K mainGlobals (Str.ofString "all") = some none)
    (bn_isinstance : PySem.W.nsIn K mainGlobals (Str.ofString "isinstance") = some none)
    (bn_bool : PySem.W.nsIn K mainGlobals (Str.ofString "bool") = some none)
    (bn_str : PySem.W.nsIn K mainGlobals (Str.ofString "str") = some none)
    (bn_dict : PySem.W.nsIn K mainGlobals (Str.ofString "dict") = some none)
    (bn_enumerate : PySem.W.nsIn K mainGlobals (Str.ofString "enumerate") = some none)
    (bn_zip : PySem.W.nsIn K mainGlobals (Str.ofString "zip") = some none)
    (bn_range : PySem.W.nsIn K mainGlobals (Str.ofString "range") = some none)
    (gl_MAX_CHOICES : PySem.W.nsIn K mainGlobals (Str.ofString "MAX_CHOICES") = some (some (.int 3 gv_MAX_CHOICES)))
    (gl_MAX_STEPS : PySem.W.nsIn K mainGlobals (Str.ofString "MAX_STEPS") = some (some (.int 12 gv_MAX_STEPS)))
    (gl_MAX_PAIRS : PySem.W.nsIn K mainGlobals (Str.ofString "MAX_PAIRS") = some (some (.int 40 gv_MAX_PAIRS)))
    (e1_is_integer : PySem.W.nsIn K mainGlobals (Str.ofString "is_integer") = some (some (.ref a_is_integer)))
    (e2_is_integer : K.lookup a_is_integer = some ⟨oc_is_integer, od_is_integer, .func (PySem.W.fnOf (Str.ofString "is_integer") (Str.ofString "is_integer") (defArgs (top 9)) (defBody (top 9)) (defScope (top 9)) .none kV_is_integer doc_is_integer pm_is_integer an_is_integer cdv_is_integer ct_is_integer), osl_is_integer⟩)
    (e3_is_integer : PySem.W.codeIn K cdv_is_integer (Str.ofString "is_integer") = true) (e4_is_integer : PySem.W.keepIn K (.ref a_is_integer) = true)
    (e1_is_number_below : PySem.W.nsIn K mainGlobals (Str.ofString "is_number_below") = some (some (.ref a_is_number_below)))
    (e2_is_number_below : K.lookup a_is_number_below = some ⟨oc_is_number_below, od_is_number_below, .func (PySem.W.fnOf (Str.ofString "is_number_below") (Str.ofString "is_number_below") (defArgs (top 10)) (defBody (top 10)) (defScope (top 10)) .none kV_is_number_below doc_is_number_below pm_is_number_below an_is_number_below cdv_is_number_below ct_is_number_below), osl_is_number_below⟩)
    (e3_is_number_below : PySem.W.codeIn K cdv_is_number_below (Str.ofString "is_number_below") = true) (e4_is_number_below : PySem.W.keepIn K (.ref a_is_number_below) = true)
    (e1_is_built : PySem.W.nsIn K mainGlobals (Str.ofString "is_built") = some (some (.ref a_is_built)))
    (e2_is_built : K.lookup a_is_built = some ⟨oc_is_built, od_is_built, .func (PySem.W.fnOf (Str.ofString "is_built") (Str.ofString "is_built") (defArgs (top 12)) (defBody (top 12)) (defScope (top 12)) .none kV_is_built doc_is_built pm_is_built an_is_built cdv_is_built ct_is_built), osl_is_built⟩)
    (e3_is_built : PySem.W.codeIn K cdv_is_built (Str.ofString "is_built") = true) (e4_is_built : PySem.W.keepIn K (.ref a_is_built) = true)
    (e1_add_rows : PySem.W.nsIn K mainGlobals (Str.ofString "add_rows") = some (some (.ref a_add_rows)))
    (e2_add_rows : K.lookup a_add_rows = some ⟨oc_add_rows, od_add_rows, .func (PySem.W.fnOf (Str.ofString "add_rows") (Str.ofString "add_rows") (defArgs (top 13)) (defBody (top 13)) (defScope (top 13)) .none kV_add_rows doc_add_rows pm_add_rows an_add_rows cdv_add_rows ct_add_rows), osl_add_rows⟩)
    (e3_add_rows : PySem.W.codeIn K cdv_add_rows (Str.ofString "add_rows") = true) (e4_add_rows : PySem.W.keepIn K (.ref a_add_rows) = true)
    (e1_rows_of : PySem.W.nsIn K mainGlobals (Str.ofString "rows_of") = some (some (.ref a_rows_of)))
    (e2_rows_of : K.lookup a_rows_of = some ⟨oc_rows_of, od_rows_of, .func (PySem.W.fnOf (Str.ofString "rows_of") (Str.ofString "rows_of") (defArgs (top 14)) (defBody (top 14)) (defScope (top 14)) .none kV_rows_of doc_rows_of pm_rows_of an_rows_of cdv_rows_of ct_rows_of), osl_rows_of⟩)
    (e3_rows_of : PySem.W.codeIn K cdv_rows_of (Str.ofString "rows_of") = true) (e4_rows_of : PySem.W.keepIn K (.ref a_rows_of) = true)
    (e1_pair_error : PySem.W.nsIn K mainGlobals (Str.ofString "pair_error") = some (some (.ref a_pair_error)))
    (e2_pair_error : K.lookup a_pair_error = some ⟨oc_pair_error, od_pair_error, .func (PySem.W.fnOf (Str.ofString "pair_error") (Str.ofString "pair_error") (defArgs (top 15)) (defBody (top 15)) (defScope (top 15)) .none kV_pair_error doc_pair_error pm_pair_error an_pair_error cdv_pair_error ct_pair_error), osl_pair_error⟩)
    (e3_pair_error : PySem.W.codeIn K cdv_pair_error (Str.ofString "pair_error") = true) (e4_pair_error : PySem.W.keepIn K (.ref a_pair_error) = true)
    (e1_way_error : PySem.W.nsIn K mainGlobals (Str.ofString "way_error") = some (some (.ref a_way_error)))
    (e2_way_error : K.lookup a_way_error = some ⟨oc_way_error, od_way_error, .func (PySem.W.fnOf (Str.ofString "way_error") (Str.ofString "way_error") (defArgs (top 16)) (defBody (top 16)) (defScope (top 16)) .none kV_way_error doc_way_error pm_way_error an_way_error cdv_way_error ct_way_error), osl_way_error⟩)
    (e3_way_error : PySem.W.codeIn K cdv_way_error (Str.ofString "way_error") = true) (e4_way_error : PySem.W.keepIn K (.ref a_way_error) = true)
    (e1_longest : PySem.W.nsIn K mainGlobals (Str.ofString "longest") = some (some (.ref a_longest)))
    (e2_longest : K.lookup a_longest = some ⟨oc_longest, od_longest, .func (PySem.W.fnOf (Str.ofString "longest") (Str.ofString "longest") (defArgs (top 17)) (defBody (top 17)) (defScope (top 17)) .none kV_longest doc_longest pm_longest an_longest cdv_longest ct_longest), osl_longest⟩)
    (e3_longest : PySem.W.codeIn K cdv_longest (Str.ofString "longest") = true) (e4_longest : PySem.W.keepIn K (.ref a_longest) = true)
    (e1_wanted : PySem.W.nsIn K mainGlobals (Str.ofString "wanted") = some (some (.ref a_wanted)))
    (e2_wanted : K.lookup a_wanted = some ⟨oc_wanted, od_wanted, .func (PySem.W.fnOf (Str.ofString "wanted") (Str.ofString "wanted") (defArgs (top 19)) (defBody (top 19)) (defScope (top 19)) .none kV_wanted doc_wanted pm_wanted an_wanted cdv_wanted ct_wanted), osl_wanted⟩)
    (e3_wanted : PySem.W.codeIn K cdv_wanted (Str.ofString "wanted") = true) (e4_wanted : PySem.W.keepIn K (.ref a_wanted) = true)
    (e1_closed_from : PySem.W.nsIn K mainGlobals (Str.ofString "closed_from") = some (some (.ref a_closed_from)))
    (e2_closed_from : K.lookup a_closed_from = some ⟨oc_closed_from, od_closed_from, .func (PySem.W.fnOf (Str.ofString "closed_from") (Str.ofString "closed_from") (defArgs (top 20)) (defBody (top 20)) (defScope (top 20)) .none kV_closed_from doc_closed_from pm_closed_from an_closed_from cdv_closed_from ct_closed_from), osl_closed_from⟩)
    (e3_closed_from : PySem.W.codeIn K cdv_closed_from (Str.ofString "closed_from") = true) (e4_closed_from : PySem.W.keepIn K (.ref a_closed_from) = true)
    (e1_closure : PySem.W.nsIn K mainGlobals (Str.ofString "closure") = some (some (.ref a_closure)))
    (e2_closure : K.lookup a_closure = some ⟨oc_closure, od_closure, .func (PySem.W.fnOf (Str.ofString "closure") (Str.ofString "closure") (defArgs (top 21)) (defBody (top 21)) (defScope (top 21)) .none kV_closure doc_closure pm_closure an_closure cdv_closure ct_closure), osl_closure⟩)
    (e3_closure : PySem.W.codeIn K cdv_closure (Str.ofString "closure") = true) (e4_closure : PySem.W.keepIn K (.ref a_closure) = true)
    (e1_look_at_way : PySem.W.nsIn K mainGlobals (Str.ofString "look_at_way") = some (some (.ref a_look_at_way)))
    (e2_look_at_way : K.lookup a_look_at_way = some ⟨oc_look_at_way, od_look_at_way, .func (PySem.W.fnOf (Str.ofString "look_at_way") (Str.ofString "look_at_way") (defArgs (top 23)) (defBody (top 23)) (defScope (top 23)) .none kV_look_at_way doc_look_at_way pm_look_at_way an_look_at_way cdv_look_at_way ct_look_at_way), osl_look_at_way⟩)
    (e3_look_at_way : PySem.W.codeIn K cdv_look_at_way (Str.ofString "look_at_way") = true) (e4_look_at_way : PySem.W.keepIn K (.ref a_look_at_way) = true)
    (e1_look_at_station : PySem.W.nsIn K mainGlobals (Str.ofString "look_at_station") = some (some (.ref a_look_at_station)))
    (e2_look_at_station : K.lookup a_look_at_station = some ⟨oc_look_at_station, od_look_at_station, .func (PySem.W.fnOf (Str.ofString "look_at_station") (Str.ofString "look_at_station") (defArgs (top 24)) (defBody (top 24)) (defScope (top 24)) .none kV_look_at_station doc_look_at_station pm_look_at_station an_look_at_station cdv_look_at_station ct_look_at_station), osl_look_at_station⟩)
    (e3_look_at_station : PySem.W.codeIn K cdv_look_at_station (Str.ofString "look_at_station") = true) (e4_look_at_station : PySem.W.keepIn K (.ref a_look_at_station) = true)
    (e1_rewayed : PySem.W.nsIn K mainGlobals (Str.ofString "rewayed") = some (some (.ref a_rewayed)))
    (e2_rewayed : K.lookup a_rewayed = some ⟨oc_rewayed, od_rewayed, .func (PySem.W.fnOf (Str.ofString "rewayed") (Str.ofString "rewayed") (defArgs (top 25)) (defBody (top 25)) (defScope (top 25)) .none kV_rewayed doc_rewayed pm_rewayed an_rewayed cdv_rewayed ct_rewayed), osl_rewayed⟩)
    (e3_rewayed : PySem.W.codeIn K cdv_rewayed (Str.ofString "rewayed") = true) (e4_rewayed : PySem.W.keepIn K (.ref a_rewayed) = true)
    (e1__law_bag : PySem.W.nsIn K mainGlobals (Str.ofString "_law_bag") = some (some (.ref a__law_bag)))
    (e2__law_bag : K.lookup a__law_bag = some ⟨oc__law_bag, od__law_bag, .func (PySem.W.fnOf (Str.ofString "_law_bag") (Str.ofString "_law_bag") (defArgs (top 27)) (defBody (top 27)) (defScope (top 27)) .none kV__law_bag doc__law_bag pm__law_bag an__law_bag cdv__law_bag ct__law_bag), osl__law_bag⟩)
    (e3__law_bag : PySem.W.codeIn K cdv__law_bag (Str.ofString "_law_bag") = true) (e4__law_bag : PySem.W.keepIn K (.ref a__law_bag) = true)
    (e1__law_draw : PySem.W.nsIn K mainGlobals (Str.ofString "_law_draw") = some (some (.ref a__law_draw)))
    (e2__law_draw : K.lookup a__law_draw = some ⟨oc__law_draw, od__law_draw, .func (PySem.W.fnOf (Str.ofString "_law_draw") (Str.ofString "_law_draw") (defArgs (top 28)) (defBody (top 28)) (defScope (top 28)) .none kV__law_draw doc__law_draw pm__law_draw an__law_draw cdv__law_draw ct__law_draw), osl__law_draw⟩)
    (e3__law_draw : PySem.W.codeIn K cdv__law_draw (Str.ofString "_law_draw") = true) (e4__law_draw : PySem.W.keepIn K (.ref a__law_draw) = true)
    (e1__law_pick : PySem.W.nsIn K mainGlobals (Str.ofString "_law_pick") = some (some (.ref a__law_pick)))
    (e2__law_pick : K.lookup a__law_pick = some ⟨oc__law_pick, od__law_pick, .func (PySem.W.fnOf (Str.ofString "_law_pick") (Str.ofString "_law_pick") (defArgs (top 29)) (defBody (top 29)) (defScope (top 29)) .none kV__law_pick doc__law_pick pm__law_pick an__law_pick cdv__law_pick ct__law_pick), osl__law_pick⟩)
    (e3__law_pick : PySem.W.codeIn K cdv__law_pick (Str.ofString "_law_pick") = true) (e4__law_pick : PySem.W.keepIn K (.ref a__law_pick) = true)
    (e1__law_mixed : PySem.W.nsIn K mainGlobals (Str.ofString "_law_mixed") = some (some (.ref a__law_mixed)))
    (e2__law_mixed : K.lookup a__law_mixed = some ⟨oc__law_mixed, od__law_mixed, .func (PySem.W.fnOf (Str.ofString "_law_mixed") (Str.ofString "_law_mixed") (defArgs (top 30)) (defBody (top 30)) (defScope (top 30)) .none kV__law_mixed doc__law_mixed pm__law_mixed an__law_mixed cdv__law_mixed ct__law_mixed), osl__law_mixed⟩)
    (e3__law_mixed : PySem.W.codeIn K cdv__law_mixed (Str.ofString "_law_mixed") = true) (e4__law_mixed : PySem.W.keepIn K (.ref a__law_mixed) = true)
    (e1__law_is_whole : PySem.W.nsIn K mainGlobals (Str.ofString "_law_is_whole") = some (some (.ref a__law_is_whole)))
    (e2__law_is_whole : K.lookup a__law_is_whole = some ⟨oc__law_is_whole, od__law_is_whole, .func (PySem.W.fnOf (Str.ofString "_law_is_whole") (Str.ofString "_law_is_whole") (defArgs (top 31)) (defBody (top 31)) (defScope (top 31)) .none kV__law_is_whole doc__law_is_whole pm__law_is_whole an__law_is_whole cdv__law_is_whole ct__law_is_whole), osl__law_is_whole⟩)
    (e3__law_is_whole : PySem.W.codeIn K cdv__law_is_whole (Str.ofString "_law_is_whole") = true) (e4__law_is_whole : PySem.W.keepIn K (.ref a__law_is_whole) = true)
    (e1__law_odd : PySem.W.nsIn K mainGlobals (Str.ofString "_law_odd") = some (some (.ref a__law_odd)))
    (e2__law_odd : K.lookup a__law_odd = some ⟨oc__law_odd, od__law_odd, .func (PySem.W.fnOf (Str.ofString "_law_odd") (Str.ofString "_law_odd") (defArgs (top 32)) (defBody (top 32)) (defScope (top 32)) .none kV__law_odd doc__law_odd pm__law_odd an__law_odd cdv__law_odd ct__law_odd), osl__law_odd⟩)
    (e3__law_odd : PySem.W.codeIn K cdv__law_odd (Str.ofString "_law_odd") = true) (e4__law_odd : PySem.W.keepIn K (.ref a__law_odd) = true)
    (e1__law_net : PySem.W.nsIn K mainGlobals (Str.ofString "_law_net") = some (some (.ref a__law_net)))
    (e2__law_net : K.lookup a__law_net = some ⟨oc__law_net, od__law_net, .func (PySem.W.fnOf (Str.ofString "_law_net") (Str.ofString "_law_net") (defArgs (top 33)) (defBody (top 33)) (defScope (top 33)) .none kV__law_net doc__law_net pm__law_net an__law_net cdv__law_net ct__law_net), osl__law_net⟩)
    (e3__law_net : PySem.W.codeIn K cdv__law_net (Str.ofString "_law_net") = true) (e4__law_net : PySem.W.keepIn K (.ref a__law_net) = true)
    (e1__law_has_round : PySem.W.nsIn K mainGlobals (Str.ofString "_law_has_round") = some (some (.ref a__law_has_round)))
    (e2__law_has_round : K.lookup a__law_has_round = some ⟨oc__law_has_round, od__law_has_round, .func (PySem.W.fnOf (Str.ofString "_law_has_round") (Str.ofString "_law_has_round") (defArgs (top 34)) (defBody (top 34)) (defScope (top 34)) .none kV__law_has_round doc__law_has_round pm__law_has_round an__law_has_round cdv__law_has_round ct__law_has_round), osl__law_has_round⟩)
    (e3__law_has_round : PySem.W.codeIn K cdv__law_has_round (Str.ofString "_law_has_round") = true) (e4__law_has_round : PySem.W.keepIn K (.ref a__law_has_round) = true)
    (e1__law_bare : PySem.W.nsIn K mainGlobals (Str.ofString "_law_bare") = some (some (.ref a__law_bare)))
    (e2__law_bare : K.lookup a__law_bare = some ⟨oc__law_bare, od__law_bare, .func (PySem.W.fnOf (Str.ofString "_law_bare") (Str.ofString "_law_bare") (defArgs (top 35)) (defBody (top 35)) (defScope (top 35)) .none kV__law_bare doc__law_bare pm__law_bare an__law_bare cdv__law_bare ct__law_bare), osl__law_bare⟩)
    (e3__law_bare : PySem.W.codeIn K cdv__law_bare (Str.ofString "_law_bare") = true) (e4__law_bare : PySem.W.keepIn K (.ref a__law_bare) = true)
    (e1__law_gated : PySem.W.nsIn K mainGlobals (Str.ofString "_law_gated") = some (some (.ref a__law_gated)))
    (e2__law_gated : K.lookup a__law_gated = some ⟨oc__law_gated, od__law_gated, .func (PySem.W.fnOf (Str.ofString "_law_gated") (Str.ofString "_law_gated") (defArgs (top 36)) (defBody (top 36)) (defScope (top 36)) .none kV__law_gated doc__law_gated pm__law_gated an__law_gated cdv__law_gated ct__law_gated), osl__law_gated⟩)
    (e3__law_gated : PySem.W.codeIn K cdv__law_gated (Str.ofString "_law_gated") = true) (e4__law_gated : PySem.W.keepIn K (.ref a__law_gated) = true)
    (e1__law_way : PySem.W.nsIn K mainGlobals (Str.ofString "_law_way") = some (some (.ref a__law_way)))
    (e2__law_way : K.lookup a__law_way = some ⟨oc__law_way, od__law_way, .func (PySem.W.fnOf (Str.ofString "_law_way") (Str.ofString "_law_way") (defArgs (top 37)) (defBody (top 37)) (defScope (top 37)) .none kV__law_way doc__law_way pm__law_way an__law_way cdv__law_way ct__law_way), osl__law_way⟩)
    (e3__law_way : PySem.W.codeIn K cdv__law_way (Str.ofString "_law_way") = true) (e4__law_way : PySem.W.keepIn K (.ref a__law_way) = true)
    (e1__law_counts : PySem.W.nsIn K mainGlobals (Str.ofString "_law_counts") = some (some (.ref a__law_counts)))
    (e2__law_counts : K.lookup a__law_counts = some ⟨oc__law_counts, od__law_counts, .func (PySem.W.fnOf (Str.ofString "_law_counts") (Str.ofString "_law_counts") (defArgs (top 38)) (defBody (top 38)) (defScope (top 38)) .none kV__law_counts doc__law_counts pm__law_counts an__law_counts cdv__law_counts ct__law_counts), osl__law_counts⟩)
    (e3__law_counts : PySem.W.codeIn K cdv__law_counts (Str.ofString "_law_counts") = true) (e4__law_counts : PySem.W.keepIn K (.ref a__law_counts) = true)
    (e1__law_standing : PySem.W.nsIn K mainGlobals (Str.ofString "_law_standing") = some (some (.ref a__law_standing)))
    (e2__law_standing : K.lookup a__law_standing = some ⟨oc__law_standing, od__law_standing, .func (PySem.W.fnOf (Str.ofString "_law_standing") (Str.ofString "_law_standing") (defArgs (top 39)) (defBody (top 39)) (defScope (top 39)) .none kV__law_standing doc__law_standing pm__law_standing an__law_standing cdv__law_standing ct__law_standing), osl__law_standing⟩)
    (e3__law_standing : PySem.W.codeIn K cdv__law_standing (Str.ofString "_law_standing") = true) (e4__law_standing : PySem.W.keepIn K (.ref a__law_standing) = true)
    (e1__law_least : PySem.W.nsIn K mainGlobals (Str.ofString "_law_least") = some (some (.ref a__law_least)))
    (e2__law_least : K.lookup a__law_least = some ⟨oc__law_least, od__law_least, .func (PySem.W.fnOf (Str.ofString "_law_least") (Str.ofString "_law_least") (defArgs (top 40)) (defBody (top 40)) (defScope (top 40)) .none kV__law_least doc__law_least pm__law_least an__law_least cdv__law_least ct__law_least), osl__law_least⟩)
    (e3__law_least : PySem.W.codeIn K cdv__law_least (Str.ofString "_law_least") = true) (e4__law_least : PySem.W.keepIn K (.ref a__law_least) = true)
    (e1__law_is_built : PySem.W.nsIn K mainGlobals (Str.ofString "_law_is_built") = some (some (.ref a__law_is_built)))
    (e2__law_is_built : K.lookup a__law_is_built = some ⟨oc__law_is_built, od__law_is_built, .func (PySem.W.fnOf (Str.ofString "_law_is_built") (Str.ofString "_law_is_built") (defArgs (top 41)) (defBody (top 41)) (defScope (top 41)) .none kV__law_is_built doc__law_is_built pm__law_is_built an__law_is_built cdv__law_is_built ct__law_is_built), osl__law_is_built⟩)
    (e3__law_is_built : PySem.W.codeIn K cdv__law_is_built (Str.ofString "_law_is_built") = true) (e4__law_is_built : PySem.W.keepIn K (.ref a__law_is_built) = true)
    (e1__law_pairs : PySem.W.nsIn K mainGlobals (Str.ofString "_law_pairs") = some (some (.ref a__law_pairs)))
    (e2__law_pairs : K.lookup a__law_pairs = some ⟨oc__law_pairs, od__law_pairs, .func (PySem.W.fnOf (Str.ofString "_law_pairs") (Str.ofString "_law_pairs") (defArgs (top 42)) (defBody (top 42)) (defScope (top 42)) .none kV__law_pairs doc__law_pairs pm__law_pairs an__law_pairs cdv__law_pairs ct__law_pairs), osl__law_pairs⟩)
    (e3__law_pairs : PySem.W.codeIn K cdv__law_pairs (Str.ofString "_law_pairs") = true) (e4__law_pairs : PySem.W.keepIn K (.ref a__law_pairs) = true)
    (e1__law_way_slip : PySem.W.nsIn K mainGlobals (Str.ofString "_law_way_slip") = some (some (.ref a__law_way_slip)))
    (e2__law_way_slip : K.lookup a__law_way_slip = some ⟨oc__law_way_slip, od__law_way_slip, .func (PySem.W.fnOf (Str.ofString "_law_way_slip") (Str.ofString "_law_way_slip") (defArgs (top 43)) (defBody (top 43)) (defScope (top 43)) .none kV__law_way_slip doc__law_way_slip pm__law_way_slip an__law_way_slip cdv__law_way_slip ct__law_way_slip), osl__law_way_slip⟩)
    (e3__law_way_slip : PySem.W.codeIn K cdv__law_way_slip (Str.ofString "_law_way_slip") = true) (e4__law_way_slip : PySem.W.keepIn K (.ref a__law_way_slip) = true)
    (e1__law_bent : PySem.W.nsIn K mainGlobals (Str.ofString "_law_bent") = some (some (.ref a__law_bent)))
    (e2__law_bent : K.lookup a__law_bent = some ⟨oc__law_bent, od__law_bent, .func (PySem.W.fnOf (Str.ofString "_law_bent") (Str.ofString "_law_bent") (defArgs (top 44)) (defBody (top 44)) (defScope (top 44)) .none kV__law_bent doc__law_bent pm__law_bent an__law_bent cdv__law_bent ct__law_bent), osl__law_bent⟩)
    (e3__law_bent : PySem.W.codeIn K cdv__law_bent (Str.ofString "_law_bent") = true) (e4__law_bent : PySem.W.keepIn K (.ref a__law_bent) = true)
    (e1__law_rewayed_due : PySem.W.nsIn K mainGlobals (Str.ofString "_law_rewayed_due") = some (some (.ref a__law_rewayed_due)))
    (e2__law_rewayed_due : K.lookup a__law_rewayed_due = some ⟨oc__law_rewayed_due, od__law_rewayed_due, .func (PySem.W.fnOf (Str.ofString "_law_rewayed_due") (Str.ofString "_law_rewayed_due") (defArgs (top 45)) (defBody (top 45)) (defScope (top 45)) .none kV__law_rewayed_due doc__law_rewayed_due pm__law_rewayed_due an__law_rewayed_due cdv__law_rewayed_due ct__law_rewayed_due), osl__law_rewayed_due⟩)
    (e3__law_rewayed_due : PySem.W.codeIn K cdv__law_rewayed_due (Str.ofString "_law_rewayed_due") = true) (e4__law_rewayed_due : PySem.W.keepIn K (.ref a__law_rewayed_due) = true)
    (e1__law_heard : PySem.W.nsIn K mainGlobals (Str.ofString "_law_heard") = some (some (.ref a__law_heard)))
    (e2__law_heard : K.lookup a__law_heard = some ⟨oc__law_heard, od__law_heard, .func (PySem.W.fnOf (Str.ofString "_law_heard") (Str.ofString "_law_heard") (defArgs (top 46)) (defBody (top 46)) (defScope (top 46)) .none kV__law_heard doc__law_heard pm__law_heard an__law_heard cdv__law_heard ct__law_heard), osl__law_heard⟩)
    (e3__law_heard : PySem.W.codeIn K cdv__law_heard (Str.ofString "_law_heard") = true) (e4__law_heard : PySem.W.keepIn K (.ref a__law_heard) = true)
    (e1__law_is_right : PySem.W.nsIn K mainGlobals (Str.ofString "_law_is_right") = some (some (.ref a__law_is_right)))
    (e2__law_is_right : K.lookup a__law_is_right = some ⟨oc__law_is_right, od__law_is_right, .func (PySem.W.fnOf (Str.ofString "_law_is_right") (Str.ofString "_law_is_right") (defArgs (top 47)) (defBody (top 47)) (defScope (top 47)) .none kV__law_is_right doc__law_is_right pm__law_is_right an__law_is_right cdv__law_is_right ct__law_is_right), osl__law_is_right⟩)
    (e3__law_is_right : PySem.W.codeIn K cdv__law_is_right (Str.ofString "_law_is_right") = true) (e4__law_is_right : PySem.W.keepIn K (.ref a__law_is_right) = true)
    (e1_law : PySem.W.nsIn K mainGlobals (Str.ofString "law") = some (some (.ref a_law)))
    (e2_law : K.lookup a_law = some ⟨oc_law, od_law, .func (PySem.W.fnOf (Str.ofString "law") (Str.ofString "law") (defArgs (top 48)) (defBody (top 48)) (defScope (top 48)) .none kV_law doc_law pm_law an_law cdv_law ct_law), osl_law⟩)
    (e3_law : PySem.W.codeIn K cdv_law (Str.ofString "law") = true) (e4_law : PySem.W.keepIn K (.ref a_law) = true)
    : PgOk P K mg (pgOf K gs.kl [("OfficeError", C0), ("Unfit", C1), ("BadWay", C2), ("Refused", C3)]) gs where
  hK := rfl
  kl := rfl
  no := fun _ _ _ _ _ h => h
  defs := fun f F hF => allAt_of (l := tb) ⟨d_is_integer X G e1_is_integer e2_is_integer e3_is_integer e4_is_integer, d_is_number_below X G e1_is_number_below e2_is_number_below e3_is_number_below e4_is_number_below, d_is_built X G e1_is_built e2_is_built e3_is_built e4_is_built, d_add_rows X G e1_add_rows e2_add_rows e3_add_rows e4_add_rows, d_rows_of X G e1_rows_of e2_rows_of e3_rows_of e4_rows_of, d_pair_error X G e1_pair_error e2_pair_error e3_pair_error e4_pair_error, d_way_error X G e1_way_error e2_way_error e3_way_error e4_way_error, d_longest X G e1_longest e2_longest e3_longest e4_longest, d_wanted X G e1_wanted e2_wanted e3_wanted e4_wanted, d_closed_from X G e1_closed_from e2_closed_from e3_closed_from e4_closed_from, d_closure X G e1_closure e2_closure e3_closure e4_closure, d_look_at_way X G e1_look_at_way e2_look_at_way e3_look_at_way e4_look_at_way, d_look_at_station X G e1_look_at_station e2_look_at_station e3_look_at_station e4_look_at_station, d_rewayed X G e1_rewayed e2_rewayed e3_rewayed e4_rewayed, d__law_bag X G e1__law_bag e2__law_bag e3__law_bag e4__law_bag, d__law_draw X G e1__law_draw e2__law_draw e3__law_draw e4__law_draw, d__law_pick X G e1__law_pick e2__law_pick e3__law_pick e4__law_pick, d__law_mixed X G e1__law_mixed e2__law_mixed e3__law_mixed e4__law_mixed, d__law_is_whole X G e1__law_is_whole e2__law_is_whole e3__law_is_whole e4__law_is_whole, d__law_odd X G e1__law_odd e2__law_odd e3__law_odd e4__law_odd, d__law_net X G e1__law_net e2__law_net e3__law_net e4__law_net, d__law_has_round X G e1__law_has_round e2__law_has_round e3__law_has_round e4__law_has_round, d__law_bare X G e1__law_bare e2__law_bare e3__law_bare e4__law_bare, d__law_gated X G e1__law_gated e2__law_gated e3__law_gated e4__law_gated, d__law_way X G e1__law_way e2__law_way e3__law_way e4__law_way, d__law_counts X G e1__law_counts e2__law_counts e3__law_counts e4__law_counts, d__law_standing X G e1__law_standing e2__law_standing e3__law_standing e4__law_standing, d__law_least X G e1__law_least e2__law_least e3__law_least e4__law_least, d__law_is_built X G e1__law_is_built e2__law_is_built e3__law_is_built e4__law_is_built, d__law_pairs X G e1__law_pairs e2__law_pairs e3__law_pairs e4__law_pairs, d__law_way_slip X G e1__law_way_slip e2__law_way_slip e3__law_way_slip e4__law_way_slip, d__law_bent X G e1__law_bent e2__law_bent e3__law_bent e4__law_bent, d__law_rewayed_due X G e1__law_rewayed_due e2__law_rewayed_due e3__law_rewayed_due e4__law_rewayed_due, d__law_heard X G e1__law_heard e2__law_heard e3__law_heard e4__law_heard, d__law_is_right X G e1__law_is_right e2__law_is_right e3__law_is_right e4__law_is_right, d_law X G e1_law e2_law e3_law e4_law, trivial⟩ f F hF
  gl := fun p hp => match p, hp with
    | _, .head _ => ⟨_, .int 3, PySem.W.mg_of X G gl_MAX_CHOICES, ⟨_, rfl⟩, fun _ => .int _⟩
    | _, .tail _ (.head _) => ⟨_, .int 12, PySem.W.mg_of X G gl_MAX_STEPS, ⟨_, rfl⟩, fun _ => .int _⟩
    | _, .tail _ (.tail _ (.head _)) => ⟨_, .int 40, PySem.W.mg_of X G gl_MAX_PAIRS, ⟨_, rfl⟩, fun _ => .int _⟩
  blt := fun x hx => by
    simp only [bnames, List.mem_cons, List.not_mem_nil, or_false] at hx
    rcases hx with rfl | rfl | rfl | rfl | rfl | rfl | rfl | rfl | rfl | rfl | rfl | rfl | rfl | rfl | rfl | rfl | rfl | rfl | rfl
    · exact PySem.W.mg_none_of X G bn_len
    · exact PySem.W.mg_none_of X G bn_int
    · exact PySem.W.mg_none_of X G bn_abs
    · exact PySem.W.mg_none_of X G bn_repr
    · exact PySem.W.mg_none_of X G bn_tuple
    · exact PySem.W.mg_none_of X G bn_list
    · exact PySem.W.mg_none_of X G bn_sorted
    · exact PySem.W.mg_none_of X G bn_set
    · exact PySem.W.mg_none_of X G bn_sum
    · exact PySem.W.mg_none_of X G bn_max
    · exact PySem.W.mg_none_of X G bn_min
    · exact PySem.W.mg_none_of X G bn_all
    · exact PySem.W.mg_none_of X G bn_isinstance
    · exact PySem.W.mg_none_of X G bn_bool
    · exact PySem.W.mg_none_of X G bn_str
    · exact PySem.W.mg_none_of X G bn_dict
    · exact PySem.W.mg_none_of X G bn_enumerate
    · exact PySem.W.mg_none_of X G bn_zip
    · exact PySem.W.mg_none_of X G bn_range
  xc := by
    refine xcOk_of (xc_keys rfl) (fun q hq => ?_) (fun q hq r hr => ?_) (fun q hq => ?_) (fun q hq f s h => ?_)
    · exact match q, hq with
      | _, .head _ => ⟨PySem.W.mg_of X G a_C0, ⟨g_C0, h_C0, s_C0, d_C0, c_C0, hn, ht, m_C0⟩, t_C0⟩
      | _, .tail _ (.head _) => ⟨PySem.W.mg_of X G a_C1, ⟨g_C1, h_C1, s_C1, d_C1, c_C1, hn, ht, m_C1⟩, t_C1⟩
      | _, .tail _ (.tail _ (.head _)) => ⟨PySem.W.mg_of X G a_C2, ⟨g_C2, h_C2, s_C2, d_C2, c_C2, hn, ht, m_C2⟩, t_C2⟩
      | _, .tail _ (.tail _ (.tail _ (.head _))) => ⟨PySem.W.mg_of X G a_C3, ⟨g_C3, h_C3, s_C3, d_C3, c_C3, hn, ht, m_C3⟩, t_C3⟩
    · exact match q, hq, r, hr with
      | _, .head _, _, .head _ => s0_0
      | _, .head _, _, .tail _ (.head _) => s0_1
      | _, .head _, _, .tail _ (.tail _ (.head _)) => s0_2
      | _, .head _, _, .tail _ (.tail _ (.tail _ (.head _))) => s0_3
      | _, .tail _ (.head _), _, .head _ => s1_0
      | _, .tail _ (.head _), _, .tail _ (.head _) => s1_1
      | _, .tail _ (.head _), _, .tail _ (.tail _ (.head _)) => s1_2
      | _, .tail _ (.head _), _, .tail _ (.tail _ (.tail _ (.head _))) => s1_3
      | _, .tail _ (.tail _ (.head _)), _, .head _ => s2_0
      | _, .tail _ (.tail _ (.head _)), _, .tail _ (.head _) => s2_1
      | _, .tail _ (.tail _ (.head _)), _, .tail _ (.tail _ (.head _)) => s2_2
      | _, .tail _ (.tail _ (.head _)), _, .tail _ (.tail _ (.tail _ (.head _))) => s2_3
      | _, .tail _ (.tail _ (.tail _ (.head _))), _, .head _ => s3_0
      | _, .tail _ (.tail _ (.tail _ (.head _))), _, .tail _ (.head _) => s3_1
      | _, .tail _ (.tail _ (.tail _ (.head _))), _, .tail _ (.tail _ (.head _)) => s3_2
      | _, .tail _ (.tail _ (.tail _ (.head _))), _, .tail _ (.tail _ (.tail _ (.head _))) => s3_3
    · exact match q, hq with
      | _, .head _ => rfl
      | _, .tail _ (.head _) => rfl
      | _, .tail _ (.tail _ (.head _)) => rfl
      | _, .tail _ (.tail _ (.tail _ (.head _))) => rfl
    · exact match q, hq, h with
      | _, .head _, h => by cases (show some (none, _) = some (some f, s) from h)
      | _, .tail _ (.head _), h => by cases (show some (none, _) = some (some f, s) from h)
      | _, .tail _ (.tail _ (.head _)), h => by cases (show some (some "error", _) = some (some f, s) from h); exact ⟨⟨g_C2, h_C2, s_C2, d_C2⟩, f_C2⟩
      | _, .tail _ (.tail _ (.tail _ (.head _))), h => by cases (show some (some "lot", _) = some (some f, s) from h); exact ⟨⟨g_C3, h_C3, s_C3, d_C3⟩, f_C3⟩
  er := fun c fo sup h hc => by
    have hms : mg "super" = none := PySem.W.mg_none_of X G su
    exact match c, hc, h with
    | _, .head _, h => by
      cases (show some (some "error", _) = some (fo, sup) from h)
      exact err_one rfl ⟨⟨_, _, _, _, _, _, _, _, _, _, _, ⟨⟨⟨_, _, _, _, _, _, _, _, _, _, _, _, _, _, _, x_C2, b_C2⟩, w_C2, s_C2, t_C2, k_C2⟩, ⟨_, _, _, e_C2⟩, ⟨_, _, _, _, _, _, n_C2, p_C2, q_C2⟩, su, r_C2, y_C2, z_C2, oq, tp, i_C2, j_C2⟩, hms, l_C2, o_C2⟩⟩ rfl rfl ⟨by decide +kernel, by decide +kernel, by decide +kernel, by decide +kernel, by decide +kernel, by decide +kernel, by decide +kernel⟩ rfl (by decide +kernel) (by decide +kernel) f_C2 (fun _ _ _ _ _ _ _ _ _ => rfl)
    | _, .tail _ (.head _), h => by
      cases (show some (some "lot", _) = some (fo, sup) from h)
      exact err_one rfl ⟨⟨_, _, _, _, _, _, _, _, _, _, _, ⟨⟨⟨_, _, _, _, _, _, _, _, _, _, _, _, _, _, _, x_C3, b_C3⟩, w_C3, s_C3, t_C3, k_C3⟩, ⟨_, _, _, e_C3⟩, ⟨_, _, _, _, _, _, n_C3, p_C3, q_C3⟩, su, r_C3, y_C3, z_C3, oq, tp, i_C3, j_C3⟩, hms, l_C3, o_C3⟩⟩ rfl rfl ⟨by decide +kernel, by decide +kernel, by decide +kernel, by decide +kernel, by decide +kernel, by decide +kernel, by decide +kernel⟩ rfl (by decide +kernel) (by decide +kernel) f_C3 (fun _ _ _ _ _ _ _ _ _ => rfl)
    | _, .tail _ (.tail _ (.head _)), h => by
      cases (show some (none, _) = some (fo, sup) from h)
      exact err_none rfl ⟨⟨_, _, _, _, _, _, _, _, _, _, _, ⟨⟨⟨_, _, _, _, _, _, _, _, _, _, _, _, _, _, _, x_C1, b_C1⟩, w_C1, s_C1, t_C1, k_C1⟩, ⟨_, _, _, e_C1⟩, ⟨_, _, _, _, _, _, n_C1, p_C1, q_C1⟩, su, r_C1, y_C1, z_C1, oq, tp, i_C1, j_C1⟩, hms, l_C1, o_C1⟩⟩ rfl rfl ⟨by decide +kernel, by decide +kernel, by decide +kernel, by decide +kernel, by decide +kernel, by decide +kernel, by decide +kernel⟩ rfl (fun _ _ _ _ _ _ _ _ => rfl)
end Sx.K80.Asm
end
open PySem PySem.W PyProof.Rows in
set_option maxRecDepth 100000 in
set_option maxHeartbeats 0 in
theorem PySem.Challenge.cw_singlegates_k80_whole_trains_go_elsewher_holds : PySem.Challenge.rw_singlegates_k80_whole_trains_go_elsewher.Holds := by
  w_on; o_law; k_head; (case hw => w_witness2)
  k_fill
  refine Sg.walk_ofG (l := PySem.Challenge.rw_singlegates_k80_whole_trains_go_elsewher) (n := 63) (k := 61) rfl (by decide) rfl ⟨rfl, by decide, by decide⟩ (fun w h Y => PySem.W.kIn_of Y) ?F
  case F =>
    intro w mg fa h KX G hmg
    refine' Sg.law_end (f := "law") (n := 60) (Sx.K80.Asm.all_mk KX G ?a_C0 ?t_C0 ?g_C0 ?h_C0 ?s_C0 ?d_C0 ?c_C0 ?m_C0 ?a_C1 ?t_C1 ?g_C1 ?h_C1 ?s_C1 ?d_C1 ?c_C1 ?m_C1 ?x_C1 ?b_C1 ?w_C1 ?k_C1 ?i_C1 ?l_C1 ?o_C1 ?e_C1 ?n_C1 ?p_C1 ?q_C1 ?r_C1 ?y_C1 ?z_C1 ?j_C1 ?a_C2 ?t_C2 ?g_C2 ?h_C2 ?s_C2 ?d_C2 ?c_C2 ?m_C2 ?f_C2 ?x_C2 ?b_C2 ?w_C2 ?k_C2 ?i_C2 ?l_C2 ?o_C2 ?e_C2 ?n_C2 ?p_C2 ?q_C2 ?r_C2 ?y_C2 ?z_C2 ?j_C2 ?a_C3 ?t_C3 ?g_C3 ?h_C3 ?s_C3 ?d_C3 ?c_C3 ?m_C3 ?f_C3 ?x_C3 ?b_C3 ?w_C3 ?k_C3 ?i_C3 ?l_C3 ?o_C3 ?e_C3 ?n_C3 ?p_C3 ?q_C3 ?r_C3 ?y_C3 ?z_C3 ?j_C3 ?hn ?ht ?su ?oq ?tp ?s0_0 ?s0_1 ?s0_2 ?s0_3 ?s1_0 ?s1_1 ?s1_2 ?s1_3 ?s2_0 ?s2_1 ?s2_2 ?s2_3 ?s3_0 ?s3_1 ?s3_2 ?s3_3 ?bn_len ?bn_int ?bn_abs ?bn_repr ?bn_tuple ?bn_list ?bn_sorted ?bn_set ?bn_sum ?bn_max ?bn_min ?bn_all ?bn_isinstance ?bn_bool ?bn_str ?bn_dict ?bn_enumerate ?bn_zip ?bn_range ?gl_MAX_CHOICES ?gl_MAX_STEPS ?gl_MAX_PAIRS ?e1_is_integer ?e2_is_integer ?e3_is_integer ?e4_is_integer ?e1_is_number_below ?e2_is_number_below ?e3_is_number_below ?e4_is_number_below ?e1_is_built ?e2_is_built ?e3_is_built ?e4_is_built ?e1_add_rows ?e2_add_rows ?e3_add_rows ?e4_add_rows ?e1_rows_of ?e2_rows_of ?e3_rows_of ?e4_rows_of ?e1_pair_error ?e2_pair_error ?e3_pair_error ?e4_pair_error ?e1_way_error ?e2_way_error ?e3_way_error ?e4_way_error ?e1_longest ?e2_longest ?e3_longest ?e4_longest ?e1_wanted ?e2_wanted ?e3_wanted ?e4_wanted ?e1_closed_from ?e2_closed_from ?e3_closed_from ?e4_closed_from ?e1_closure ?e2_closure ?e3_closure ?e4_closure ?e1_look_at_way ?e2_look_at_way ?e3_look_at_way ?e4_look_at_way ?e1_look_at_station ?e2_look_at_station ?e3_look_at_station ?e4_look_at_station ?e1_rewayed ?e2_rewayed ?e3_rewayed ?e4_rewayed ?e1__law_bag ?e2__law_bag ?e3__law_bag ?e4__law_bag ?e1__law_draw ?e2__law_draw ?e3__law_draw ?e4__law_draw ?e1__law_pick ?e2__law_pick ?e3__law_pick ?e4__law_pick ?e1__law_mixed ?e2__law_mixed ?e3__law_mixed ?e4__law_mixed ?e1__law_is_whole ?e2__law_is_whole ?e3__law_is_whole ?e4__law_is_whole ?e1__law_odd ?e2__law_odd ?e3__law_odd ?e4__law_odd ?e1__law_net ?e2__law_net ?e3__law_net ?e4__law_net ?e1__law_has_round ?e2__law_has_round ?e3__law_has_round ?e4__law_has_round ?e1__law_bare ?e2__law_bare ?e3__law_bare ?e4__law_bare ?e1__law_gated ?e2__law_gated ?e3__law_gated ?e4__law_gated ?e1__law_way ?e2__law_way ?e3__law_way ?e4__law_way ?e1__law_counts ?e2__law_counts ?e3__law_counts ?e4__law_counts ?e1__law_standing ?e2__law_standing ?e3__law_standing ?e4__law_standing ?e1__law_least ?e2__law_least ?e3__law_least ?e4__law_least ?e1__law_is_built ?e2__law_is_built ?e3__law_is_built ?e4__law_is_built ?e1__law_pairs ?e2__law_pairs ?e3__law_pairs ?e4__law_pairs ?e1__law_way_slip ?e2__law_way_slip ?e3__law_way_slip ?e4__law_way_slip ?e1__law_bent ?e2__law_bent ?e3__law_bent ?e4__law_bent ?e1__law_rewayed_due ?e2__law_rewayed_due ?e3__law_rewayed_due ?e4__law_rewayed_due ?e1__law_heard ?e2__law_heard ?e3__law_heard ?e4__law_heard ?e1__law_is_right ?e2__law_is_right ?e3__law_is_right ?e4__law_is_right ?e1_law ?e2_law ?e3_law ?e4_law) hmg rfl rfl Sx.K80.law_ok
    (case a_C0 => k_is)
    (case t_C0 => k_is)
    (case g_C0 => k_is)
    (case h_C0 => k_is)
    (case s_C0 => k_is)
    (case d_C0 => k_is)
    (case c_C0 => k_is)
    (case m_C0 => k_is)
    (case a_C1 => k_is)
    (case t_C1 => k_is)
    (case g_C1 => k_is)
    (case h_C1 => k_is)
    (case s_C1 => k_is)
    (case d_C1 => k_is)
    (case c_C1 => k_is)
    (case m_C1 => k_is)
    (case x_C1 => k_is)
    (case b_C1 => first | rfl | decide +kernel | k_is)
    (case w_C1 => k_is)
    (case k_C1 => k_is)
    (case i_C1 => k_is)
    (case l_C1 => k_is)
    (case o_C1 => k_is)
    (case e_C1 => k_is)
    (case n_C1 => k_is)
    (case p_C1 => first | rfl | k_is)
    (case q_C1 => first | rfl | decide +kernel | k_is)
    (case r_C1 => first | kernel_rfl | rfl)
    (case y_C1 => k_is)
    (case z_C1 => k_is)
    (case j_C1 => k_is)
    (case a_C2 => k_is)
    (case t_C2 => k_is)
    (case g_C2 => k_is)
    (case h_C2 => k_is)
    (case s_C2 => k_is)
    (case d_C2 => k_is)
    (case c_C2 => k_is)
    (case m_C2 => k_is)
    (case f_C2 => k_is)
    (case x_C2 => k_is)
    (case b_C2 => first | rfl | decide +kernel | k_is)
    (case w_C2 => k_is)
    (case k_C2 => k_is)
    (case i_C2 => k_is)
    (case l_C2 => k_is)
    (case o_C2 => k_is)
    (case e_C2 => k_is)
    (case n_C2 => k_is)
    (case p_C2 => first | rfl | k_is)
    (case q_C2 => first | rfl | decide +kernel | k_is)
    (case r_C2 => first | kernel_rfl | rfl)
    (case y_C2 => k_is)
    (case z_C2 => k_is)
    (case j_C2 => k_is)
    (case a_C3 => k_is)
    (case t_C3 => k_is)
    (case g_C3 => k_is)
    (case h_C3 => k_is)
    (case s_C3 => k_is)
    (case d_C3 => k_is)
    (case c_C3 => k_is)
    (case m_C3 => k_is)
    (case f_C3 => k_is)
    (case x_C3 => k_is)
    (case b_C3 => first | rfl | decide +kernel | k_is)
    (case w_C3 => k_is)
    (case k_C3 => k_is)
    (case i_C3 => k_is)
    (case l_C3 => k_is)
    (case o_C3 => k_is)
    (case e_C3 => k_is)
    (case n_C3 => k_is)
    (case p_C3 => first | rfl | k_is)
    (case q_C3 => first | rfl | decide +kernel | k_is)
    (case r_C3 => first | kernel_rfl | rfl)
    (case y_C3 => k_is)
    (case z_C3 => k_is)
    (case j_C3 => k_is)
    (case hn => k_is)
    (case ht => k_is)
    (case su => k_is)
    (case oq => k_is)
    (case tp => first | rfl | decide +kernel | k_is)
    (case s0_0 => k_is)
    (case s0_1 => k_is)
    (case s0_2 => k_is)
    (case s0_3 => k_is)
    (case s1_0 => k_is)
    (case s1_1 => k_is)
    (case s1_2 => k_is)
    (case s1_3 => k_is)
    (case s2_0 => k_is)
    (case s2_1 => k_is)
    (case s2_2 => k_is)
    (case s2_3 => k_is)
    (case s3_0 => k_is)
    (case s3_1 => k_is)
    (case s3_2 => k_is)
    (case s3_3 => k_is)
    (case bn_len => k_is)
    (case bn_int => k_is)
    (case bn_abs => k_is)
    (case bn_repr => k_is)
    (case bn_tuple => k_is)
    (case bn_list => k_is)
    (case bn_sorted => k_is)
    (case bn_set => k_is)
    (case bn_sum => k_is)
    (case bn_max => k_is)
    (case bn_min => k_is)
    (case bn_all => k_is)
    (case bn_isinstance => k_is)
    (case bn_bool => k_is)
    (case bn_str => k_is)
    (case bn_dict => k_is)
    (case bn_enumerate => k_is)
    (case bn_zip => k_is)
    (case bn_range => k_is)
    (case gl_MAX_CHOICES => k_is)
    (case gl_MAX_STEPS => k_is)
    (case gl_MAX_PAIRS => k_is)
    (case e1_is_integer => k_is)
    (case e2_is_integer => k_is)
    (case e3_is_integer => k_is)
    (case e4_is_integer => k_is)
    (case e1_is_number_below => k_is)
    (case e2_is_number_below => k_is)
    (case e3_is_number_below => k_is)
    (case e4_is_number_below => k_is)
    (case e1_is_built => k_is)
    (case e2_is_built => k_is)
    (case e3_is_built => k_is)
    (case e4_is_built => k_is)
    (case e1_add_rows => k_is)
    (case e2_add_rows => k_is)
    (case e3_add_rows => k_is)
    (case e4_add_rows => k_is)
    (case e1_rows_of => k_is)
    (case e2_rows_of => k_is)
    (case e3_rows_of => k_is)
    (case e4_rows_of => k_is)
    (case e1_pair_error => k_is)
    (case e2_pair_error => k_is)
    (case e3_pair_error => k_is)
    (case e4_pair_error => k_is)
    (case e1_way_error => k_is)
    (case e2_way_error => k_is)
    (case e3_way_error => k_is)
    (case e4_way_error => k_is)
    (case e1_longest => k_is)
    (case e2_longest => k_is)
    (case e3_longest => k_is)
    (case e4_longest => k_is)
    (case e1_wanted => k_is)
    (case e2_wanted => k_is)
    (case e3_wanted => k_is)
    (case e4_wanted => k_is)
    (case e1_closed_from => k_is)
    (case e2_closed_from => k_is)
    (case e3_closed_from => k_is)
    (case e4_closed_from => k_is)
    (case e1_closure => k_is)
    (case e2_closure => k_is)
    (case e3_closure => k_is)
    (case e4_closure => k_is)
    (case e1_look_at_way => k_is)
    (case e2_look_at_way => k_is)
    (case e3_look_at_way => k_is)
    (case e4_look_at_way => k_is)
    (case e1_look_at_station => k_is)
    (case e2_look_at_station => k_is)
    (case e3_look_at_station => k_is)
    (case e4_look_at_station => k_is)
    (case e1_rewayed => k_is)
    (case e2_rewayed => k_is)
    (case e3_rewayed => k_is)
    (case e4_rewayed => k_is)
    (case e1__law_bag => k_is)
    (case e2__law_bag => k_is)
    (case e3__law_bag => k_is)
    (case e4__law_bag => k_is)
    (case e1__law_draw => k_is)
    (case e2__law_draw => k_is)
    (case e3__law_draw => k_is)
    (case e4__law_draw => k_is)
    (case e1__law_pick => k_is)
    (case e2__law_pick => k_is)
    (case e3__law_pick => k_is)
    (case e4__law_pick => k_is)
    (case e1__law_mixed => k_is)
    (case e2__law_mixed => k_is)
    (case e3__law_mixed => k_is)
    (case e4__law_mixed => k_is)
    (case e1__law_is_whole => k_is)
    (case e2__law_is_whole => k_is)
    (case e3__law_is_whole => k_is)
    (case e4__law_is_whole => k_is)
    (case e1__law_odd => k_is)
    (case e2__law_odd => k_is)
    (case e3__law_odd => k_is)
    (case e4__law_odd => k_is)
    (case e1__law_net => k_is)
    (case e2__law_net => k_is)
    (case e3__law_net => k_is)
    (case e4__law_net => k_is)
    (case e1__law_has_round => k_is)
    (case e2__law_has_round => k_is)
    (case e3__law_has_round => k_is)
    (case e4__law_has_round => k_is)
    (case e1__law_bare => k_is)
    (case e2__law_bare => k_is)
    (case e3__law_bare => k_is)
    (case e4__law_bare => k_is)
    (case e1__law_gated => k_is)
    (case e2__law_gated => k_is)
    (case e3__law_gated => k_is)
    (case e4__law_gated => k_is)
    (case e1__law_way => k_is)
    (case e2__law_way => k_is)
    (case e3__law_way => k_is)
    (case e4__law_way => k_is)
    (case e1__law_counts => k_is)
    (case e2__law_counts => k_is)
    (case e3__law_counts => k_is)
    (case e4__law_counts => k_is)
    (case e1__law_standing => k_is)
    (case e2__law_standing => k_is)
    (case e3__law_standing => k_is)
    (case e4__law_standing => k_is)
    (case e1__law_least => k_is)
    (case e2__law_least => k_is)
    (case e3__law_least => k_is)
    (case e4__law_least => k_is)
    (case e1__law_is_built => k_is)
    (case e2__law_is_built => k_is)
    (case e3__law_is_built => k_is)
    (case e4__law_is_built => k_is)
    (case e1__law_pairs => k_is)
    (case e2__law_pairs => k_is)
    (case e3__law_pairs => k_is)
    (case e4__law_pairs => k_is)
    (case e1__law_way_slip => k_is)
    (case e2__law_way_slip => k_is)
    (case e3__law_way_slip => k_is)
    (case e4__law_way_slip => k_is)
    (case e1__law_bent => k_is)
    (case e2__law_bent => k_is)
    (case e3__law_bent => k_is)
    (case e4__law_bent => k_is)
    (case e1__law_rewayed_due => k_is)
    (case e2__law_rewayed_due => k_is)
    (case e3__law_rewayed_due => k_is)
    (case e4__law_rewayed_due => k_is)
    (case e1__law_heard => k_is)
    (case e2__law_heard => k_is)
    (case e3__law_heard => k_is)
    (case e4__law_heard => k_is)
    (case e1__law_is_right => k_is)
    (case e2__law_is_right => k_is)
    (case e3__law_is_right => k_is)
    (case e4__law_is_right => k_is)
    (case e1_law => k_is)
    (case e2_law => k_is)
    (case e3_law => k_is)
    (case e4_law => k_is)
