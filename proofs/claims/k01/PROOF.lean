import PyProof.Rows.All
import PySem.PyData
import HandS.Base
import HandS.ForMost
import HandS.Exc
import HandS.ExcOwn
import HandS.Wide
import HandS.TupAny
import HandS.TupLe
import HandS.Style
import HandS.Deep
import HandS.IsInst
import HandS.Rev
import HandS.SortInts
import HandS.Conv
import HandS.Zip
import PyProof.ReprRoads
import HandS.Comp
import HandS.Ends
import HandS.Words
import HandS.More
import HandS.TryOnly
import PySem.Challenge.RW_paceplan_k01_ratios_of_any_thing
set_option Elab.async false
set_option linter.all false
/-! Mp1: mini python: values, a small heap, syntax, the evaluator. -/
namespace Mp
open PySem

/-- values: deep, but for what stands in the small heap -/
inductive D where
  | non | bl (b : Bool) | int (i : Int) | str (s : Str)
  | tup (ds : List D) | lst (ds : List D)
  | ref (n : Nat)
  | scr (ns : List Int)
  | exc (c : String) (fs : List D)
  | fn (x : String)
  deriving Inhabited

abbrev Ky := Sum Int Str
inductive Ob where
  | lst (ds : List D)
  | dk (kvs : List (Ky × D))
  | dt (kvs : List (List Ky × D))
  | ins (c : String) (fs : List (String × D))
  deriving Inhabited
abbrev Hh := List Ob

inductive R (α : Type) where
  | ok (a : α) (h : Hh)
  | ex (c : String) (fs : List D) (h : Hh)
  | bad
def R.bind {α β : Type} (r : R α) (f : α → Hh → R β) : R β := match r with
  | .ok a h => f a h
  | .ex c fs h => .ex c fs h
  | .bad => .bad
@[simp] theorem R.bind_ok {α β : Type} (a : α) (h : Hh) (f : α → Hh → R β) : (R.ok a h).bind f = f a h := rfl
@[simp] theorem R.bind_ex {α β : Type} (c : String) (fs : List D) (h : Hh) (f : α → Hh → R β) : (R.ex (α := α) c fs h).bind f = .ex c fs h := rfl
@[simp] theorem R.bind_bad {α β : Type} (f : α → Hh → R β) : (R.bad (α := α)).bind f = .bad := rfl

/-! ### looks at values -/
mutual
/-- all refs are below l -/
def D.und (l : Nat) : D → Bool
  | .ref n => decide (n < l)
  | .tup ds => D.unds l ds
  | .lst ds => D.unds l ds
  | .exc _ ds => D.unds l ds
  | _ => true
def D.unds (l : Nat) : List D → Bool
  | [] => true
  | d :: ds => d.und l && D.unds l ds
end
mutual
/-- plain data (no ref within) -/
def D.flat : D → Option PyData
  | .non => some .none
  | .bl b => some (.bool b)
  | .int i => some (.int i)
  | .str s => some (.str s)
  | .tup ds => (D.flats ds).map .tuple
  | .lst ds => (D.flats ds).map .list
  | _ => none
def D.flats : List D → Option (List PyData)
  | [] => some []
  | d :: ds => match d.flat, D.flats ds with
    | some x, some xs => some (x :: xs)
    | _, _ => none
end
/-- the items of a list that stands in the heap -/
def getL (h : Hh) (n : Nat) : Option (List D) := match h[n]? with
  | some (.lst ds) => some ds
  | _ => none
mutual
/-- data, refs to lists of plain data read -/
def D.py (h : Hh) : D → Option PyData
  | .non => some .none
  | .bl b => some (.bool b)
  | .int i => some (.int i)
  | .str s => some (.str s)
  | .tup ds => (D.pys h ds).map .tuple
  | .lst ds => (D.pys h ds).map .list
  | .ref n => (getL h n).bind fun ds => (D.flats ds).map .list
  | _ => none
def D.pys (h : Hh) : List D → Option (List PyData)
  | [] => some []
  | d :: ds => match d.py h, D.pys h ds with
    | some x, some xs => some (x :: xs)
    | _, _ => none
end
/-- a list that may be written or laid to another one -/
def lstOf (h : Hh) : D → Option (List D)
  | .lst ds => some ds
  | .ref n => getL h n
  | _ => none
def listOf (h : Hh) : D → Option (List D)
  | .scr ns => some (ns.map .int)
  | d => lstOf h d
/-- a list's or a tuple's items -/
def seqOf (h : Hh) : D → Option (List D)
  | .tup ds => some ds
  | d => listOf h d
def intsOf : List D → Option (List Int)
  | [] => some []
  | .int i :: ds => (intsOf ds).map (i :: ·)
  | _ => none
def blsOf : List D → Option (List Bool)
  | [] => some []
  | .bl i :: ds => (blsOf ds).map (i :: ·)
  | _ => none
def strsOf : List D → Option (List Str)
  | [] => some []
  | .str i :: ds => (strsOf ds).map (i :: ·)
  | _ => none

/-! ### operators -/
inductive Bop where | add | sub | mul | mod | fdiv | pow
  deriving DecidableEq
inductive Cop where | eq | ne | lt | le | gt | ge | inn | nin
  deriving DecidableEq
def small (i : Int) : Bool := decide (i.natAbs < 2 ^ 9000)
/-- where a place lies -/
def ixAt (n : Nat) (i : Int) : Option Nat := if 0 ≤ i then (if i < n then some i.toNat else none) else if -(n : Int) ≤ i then some (i + n).toNat else none
def atD {α : Type} (xs : List α) (i : Int) : Option α := (ixAt xs.length i).bind fun j => xs[j]?
def cutIx (n d : Nat) : Option Int → Nat
  | none => d
  | some v => if v < 0 then (v + (n : Int)).toNat else min v.toNat n
def cut {α : Type} (xs : List α) (lo hi : Option Int) : List α := (xs.drop (cutIx xs.length 0 lo)).take (cutIx xs.length xs.length hi - cutIx xs.length 0 lo)
def lexLt : List Int → List Int → Bool
  | [], [] => false
  | [], _ :: _ => true
  | _ :: _, [] => false
  | x :: xs, y :: ys => if x = y then lexLt xs ys else decide (x < y)

def bop (o : Bop) (h : Hh) (a b : D) : R D := match o with
  | .add => match a, b with
    | .int i, .int j => .ok (.int (i + j)) h
    | .str x, .str y => if x.length + y.length ≤ sizeLine then .ok (.str (x ++ y)) h else .bad
    | .tup xs, .tup ys => if xs.length + ys.length ≤ sizeLine then .ok (.tup (xs ++ ys)) h else .bad
    | _, _ => match lstOf h a, lstOf h b with
      | some xs, some ys => if xs.length + ys.length ≤ sizeLine then .ok (.lst (xs ++ ys)) h else .bad
      | _, _ => .bad
  | .sub => match a, b with
    | .int i, .int j => .ok (.int (i - j)) h
    | _, _ => .bad
  | .mul => match a, b with
    | .int i, .int j => if small i && small j then .ok (.int (i * j)) h else .bad
    | .lst xs, .int k => if -(2 ^ 63) ≤ k ∧ k < 2 ^ 63 ∧ xs.length * k.toNat ≤ sizeLine then .ok (.lst (List.replicate k.toNat xs).flatten) h else .bad
    | _, _ => .bad
  | .mod => match a, b with
    | .int i, .int j => if j = 0 then .bad else .ok (.int (i.fmod j)) h
    | _, _ => .bad
  | .fdiv => match a, b with
    | .int i, .int j => if j = 0 ∨ small j = false then .bad else .ok (.int (i.fdiv j)) h
    | _, _ => .bad
  | .pow => match a, b with
    | .int i, .int j => if 0 ≤ j ∧ j ≤ 1000000 ∧ i.natAbs < 2 ^ 64 then .ok (.int (i ^ j.toNat)) h else .bad
    | _, _ => .bad

def cop (o : Cop) (h : Hh) (a b : D) : R D := match o with
  | .eq => match a.py h, b.py h with
    | some x, some y => if SeqAt.shaped x && SeqAt.shaped y then .ok (.bl (PyData.eqv x y)) h else .bad
    | _, _ => .bad
  | .ne => match a.py h, b.py h with
    | some x, some y => if SeqAt.shaped x && SeqAt.shaped y then .ok (.bl (!PyData.eqv x y)) h else .bad
    | _, _ => .bad
  | .lt => match a, b with
    | .int i, .int j => .ok (.bl (decide (i < j))) h
    | .tup xs, .tup ys => match intsOf xs, intsOf ys with
      | some ns, some ms => .ok (.bl (lexLt ns ms)) h
      | _, _ => .bad
    | _, _ => .bad
  | .le => match a, b with
    | .int i, .int j => .ok (.bl (decide (i ≤ j))) h
    | _, _ => .bad
  | .gt => match a, b with
    | .int i, .int j => .ok (.bl (decide (j < i))) h
    | .tup xs, .tup ys => match intsOf xs, intsOf ys with
      | some ns, some ms => .ok (.bl (lexLt ms ns)) h
      | _, _ => .bad
    | _, _ => .bad
  | .ge => match a, b with
    | .int i, .int j => .ok (.bl (decide (j ≤ i))) h
    | _, _ => .bad
  | .inn => match a.py h, (seqOf h b).bind (D.pys h) with
    | some x, some ys => if SeqAt.shaped x && SeqAt.shaped (.list ys) then .ok (.bl (ys.any fun z => PyData.eqv z x)) h else .bad
    | _, _ => .bad
  | .nin => match a.py h, (seqOf h b).bind (D.pys h) with
    | some x, some ys => if SeqAt.shaped x && SeqAt.shaped (.list ys) then .ok (.bl (!ys.any fun z => PyData.eqv z x)) h else .bad
    | _, _ => .bad

/-! ### built-in functions and methods, by values -/
inductive Ty where | int | bool | tuple | list | str | own (c : String)
  deriving DecidableEq
/-- the classes above an own exception's class -/
def above : List String := ["PaceError", "ValueError", "Exception", "BaseException"]
def excSub (c c' : String) : Bool := c == c' || above.contains c'
def tyName : Ty → String
  | .int => "int" | .bool => "bool" | .tuple => "tuple" | .list => "list" | .str => "str" | .own c => c
/-- a value's built-in type -/
def dTy (h : Hh) : D → Option String
  | .non => some "NoneType" | .bl _ => some "bool" | .int _ => some "int" | .str _ => some "str" | .tup _ => some "tuple" | .lst _ => some "list"
  | .ref n => (getL h n).map fun _ => "list"
  | _ => none
def tyIs (t : Ty) (a : String) : Bool := match t with
  | .int => a == "int" || a == "bool"
  | .bool => a == "bool" | .tuple => a == "tuple" | .list => a == "list" | .str => a == "str" | .own _ => false
def isTy (h : Hh) (d : D) (t : Ty) : Option Bool := match t with
  | .own c' => match d with
    | .exc c _ => some (excSub c c')
    | _ => none
  | t => (dTy h d).map (tyIs t)

inductive Blt where
  | len | abs | min2 | max2 | minL | maxL | sum | all | any
  | tuple | list | listR1 | listR2 | tupR1 | tupR2
  | sorted | sortedSet | lenSet | int | str | repr
  deriving DecidableEq
def rg (a b : Int) : List D := (List.range (b - a).toNat).map fun (i : Nat) => D.int (a + (i : Int))
/-- a list's items once each, the first ones kept -/
def dedup : List Int → List Int
  | [] => []
  | x :: xs => x :: (dedup xs).filter (· != x)
def insI (x : Int) : List Int → List Int
  | [] => [x]
  | y :: ys => if x ≤ y then x :: y :: ys else y :: insI x ys
def sortI : List Int → List Int
  | [] => []
  | x :: xs => insI x (sortI xs)
def rgOk (a b : Int) : Bool := decide (-(2 ^ 62) ≤ a ∧ a < 2 ^ 62 ∧ -(2 ^ 62) ≤ b ∧ b < 2 ^ 62 ∧ b - a ≤ 16777216)

def b_len (h : Hh) : List D → R D
  | [d] => match d with
    | .str s => if s.length ≤ sizeLine then .ok (.int s.length) h else .bad
    | d => match seqOf h d with
      | some xs => .ok (.int xs.length) h
      | none => .bad
  | _ => .bad
def b_abs (h : Hh) : List D → R D
  | [.int i] => .ok (.int (if i < 0 then -i else i)) h
  | _ => .bad
def b_min2 (h : Hh) : List D → R D
  | [.int i, .int j] => .ok (.int (if j < i then j else i)) h
  | _ => .bad
def b_max2 (h : Hh) : List D → R D
  | [.int i, .int j] => .ok (.int (if j > i then j else i)) h
  | _ => .bad
def b_minL (h : Hh) : List D → R D
  | [d] => match (listOf h d).bind intsOf with
    | some (n :: ns) => .ok (.int (ns.foldl min n)) h
    | _ => .bad
  | _ => .bad
def b_maxL (h : Hh) : List D → R D
  | [d] => match (listOf h d).bind intsOf with
    | some (n :: ns) => .ok (.int (ns.foldl max n)) h
    | _ => .bad
  | _ => .bad
def b_sum (h : Hh) : List D → R D
  | [d] => match (listOf h d).bind intsOf with
    | some ns => .ok (.int ns.sum) h
    | _ => .bad
  | _ => .bad
def b_all (h : Hh) : List D → R D
  | [d] => match (listOf h d).bind blsOf with
    | some bs => .ok (.bl (bs.all id)) h
    | _ => .bad
  | _ => .bad
def b_any (h : Hh) : List D → R D
  | [d] => match (listOf h d).bind blsOf with
    | some bs => .ok (.bl (bs.any id)) h
    | _ => .bad
  | _ => .bad
def b_tuple (h : Hh) : List D → R D
  | [d] => match seqOf h d with
    | some xs => .ok (.tup xs) h
    | none => .bad
  | _ => .bad
def b_list (h : Hh) : List D → R D
  | [d] => match seqOf h d with
    | some xs => .ok (.lst xs) h
    | none => .bad
  | _ => .bad
def b_listR1 (h : Hh) : List D → R D
  | [.int n] => if rgOk 0 n then .ok (.lst (rg 0 n)) h else .bad
  | _ => .bad
def b_listR2 (h : Hh) : List D → R D
  | [.int a, .int b] => if rgOk a b then .ok (.lst (rg a b)) h else .bad
  | _ => .bad
def b_tupR1 (h : Hh) : List D → R D
  | [.int n] => if rgOk 0 n then .ok (.tup (rg 0 n)) h else .bad
  | _ => .bad
def b_tupR2 (h : Hh) : List D → R D
  | [.int a, .int b] => if rgOk a b then .ok (.tup (rg a b)) h else .bad
  | _ => .bad
def b_sorted (h : Hh) : List D → R D
  | [d] => match (listOf h d).bind intsOf with
    | some ns => .ok (.lst ((sortI ns).map .int)) h
    | _ => .bad
  | _ => .bad
def b_sortedSet (h : Hh) : List D → R D
  | [d] => match (listOf h d).bind intsOf with
    | some ns => .ok (.lst ((sortI (dedup ns)).map .int)) h
    | _ => .bad
  | _ => .bad
def b_lenSet (h : Hh) : List D → R D
  | [d] => match (listOf h d).bind intsOf with
    | some ns => if ns.length ≤ 4000 then .ok (.int (dedup ns).length) h else .bad
    | _ => .bad
  | _ => .bad
def b_int (h : Hh) : List D → R D
  | [.bl b] => .ok (.int (if b then 1 else 0)) h
  | [.int i] => .ok (.int i) h
  | _ => .bad
def b_str (h : Hh) : List D → R D
  | [.int i] => if i.natAbs.log2 < 1920 then .ok (.str (toString i : String)) h else .bad
  | _ => .bad
def b_repr (h : Hh) : List D → R D
  | [d] => match d.py h with
    | some x => if x.showable && decide (x.shown.length ≤ sizeLine) && decide (x.depth ≤ 64) then .ok (.str x.shown) h else .bad
    | none => .bad
  | _ => .bad
def blt (b : Blt) (h : Hh) (ds : List D) : R D := match b with
  | .len => b_len h ds
  | .abs => b_abs h ds
  | .min2 => b_min2 h ds
  | .max2 => b_max2 h ds
  | .minL => b_minL h ds
  | .maxL => b_maxL h ds
  | .sum => b_sum h ds
  | .all => b_all h ds
  | .any => b_any h ds
  | .tuple => b_tuple h ds
  | .list => b_list h ds
  | .listR1 => b_listR1 h ds
  | .listR2 => b_listR2 h ds
  | .tupR1 => b_tupR1 h ds
  | .tupR2 => b_tupR2 h ds
  | .sorted => b_sorted h ds
  | .sortedSet => b_sortedSet h ds
  | .lenSet => b_lenSet h ds
  | .int => b_int h ds
  | .str => b_str h ds
  | .repr => b_repr h ds

inductive Bm where
  | append | extend | insert | pop | popAt | remove | reverse | index | join
  deriving DecidableEq
/-- a store of d into the object n: within the region, or of older things alone -/
def stOk (l : List Nat) (n : Nat) (d : D) : Bool := l.all fun b => decide (b ≤ n) || d.und b
def m_append (l : List Nat) (h : Hh) (o : D) (ds : List D) : R D := match o, ds with
  | .ref n, [d] => match getL h n with
    | some xs => if stOk l n d && decide (xs.length < sizeLine) then .ok .non (h.set n (.lst (xs ++ [d]))) else .bad
    | none => .bad
  | _, _ => .bad
def m_extend (l : List Nat) (h : Hh) (o : D) (ds : List D) : R D := match o, ds with
  | .ref n, [d] => match getL h n, lstOf h d with
    | some xs, some ys => if stOk l n (.lst ys) && decide (xs.length + ys.length ≤ sizeLine) then .ok .non (h.set n (.lst (xs ++ ys))) else .bad
    | _, _ => .bad
  | _, _ => .bad
def m_insert (l : List Nat) (h : Hh) (o : D) (ds : List D) : R D := match o, ds with
  | .ref n, [.int i, d] => match getL h n with
    | some xs => if stOk l n d && decide (xs.length < sizeLine ∧ 0 ≤ i ∧ i < 2 ^ 63) then .ok .non (h.set n (.lst (xs.take i.toNat ++ [d] ++ xs.drop i.toNat))) else .bad
    | none => .bad
  | _, _ => .bad
def m_pop (l : List Nat) (h : Hh) (o : D) (ds : List D) : R D := match o, ds with
  | .ref n, [] => match getL h n with
    | some xs => match xs[xs.length - 1]? with
      | some y => .ok y (h.set n (.lst xs.dropLast))
      | none => .bad
    | none => .bad
  | _, _ => .bad
def m_popAt (l : List Nat) (h : Hh) (o : D) (ds : List D) : R D := match o, ds with
  | .ref n, [.int i] => match getL h n with
    | some xs => match ixAt xs.length i with
      | some k => match xs[k]? with
        | some y => if -(2 ^ 63) ≤ i ∧ i < 2 ^ 63 then .ok y (h.set n (.lst (xs.eraseIdx k))) else .bad
        | none => .bad
      | none => .bad
    | none => .bad
  | _, _ => .bad
def m_reverse (l : List Nat) (h : Hh) (o : D) (ds : List D) : R D := match o, ds with
  | .ref n, [] => match getL h n with
    | some xs => .ok .non (h.set n (.lst xs.reverse))
    | none => .bad
  | _, _ => .bad
def bm (m : Bm) (l : List Nat) (h : Hh) (o : D) (ds : List D) : R D := match m with
  | .append => m_append l h o ds
  | .extend => m_extend l h o ds
  | .insert => m_insert l h o ds
  | .pop => m_pop l h o ds
  | .popAt => m_popAt l h o ds
  | .reverse => m_reverse l h o ds
  | _ => .bad
/-- the receiver's kind -/
def bmTy : Bm → String
  | .join => "str"
  | _ => "list"
def recv (t : String) (h : Hh) (o : D) : Bool := match t, o with
  | "str", .str _ => true
  | "list", .ref n => (getL h n).isSome
  | "list", .lst _ => true
  | _, _ => false

/-! ### the syntax -/
mutual
inductive E where
  | no                                   -- where an optional part lacks
  | var (i : Nat)
  | cst (d : D)
  | glob (x : String) (d : D)
  | bop (o : Bop) (a b : E)
  | neg (a : E)
  | not (a : E)
  | and (a b : E)
  | or (a b : E)
  | cmp (o : Cop) (a b : E)
  | chain (o p : Cop) (a b c : E)
  | isN (a : E)
  | notN (a : E)
  | isB (a : E) (b : Bool)
  | notB (a : E) (b : Bool)
  | ite (c a b : E)
  | tup (es : EL)
  | lst (es : EL)
  | ix (a b : E)
  | sl (a lo hi : E)
  | rev (a : E)
  | call (x : String) (f : Fn) (es : EL)
  | blt (b : Blt) (es : EL)
  | isin (a : E) (ts : List Ty)
  | comp (elt : E) (tg : List Nat) (src : It) (c : E)
  | alloc (e : E)
  | fld (a : E) (f : String)
  | meth (c m : String) (f : Fn) (a : E) (es : EL)
  | make (c : String) (f : Fn) (es : EL)
  | bm (m : Bm) (a : E) (es : EL)
inductive EL where
  | nil
  | cons (e : E) (es : EL)
/-- what a for walks -/
inductive It where
  | seq (a : E)
  | rg1 (a : E)
  | rg2 (a b : E)
  | enum (a : E)
  | zip (a b : E)
inductive S where
  | ex (e : E)
  | set (i : Nat) (e : E)
  | unp (is : List Nat) (e : E)          -- a, b = e
  | par (i j : Nat) (es : EL)            -- a, b = x, y
  | ixSet (o i v : E)
  | fldSet (o : E) (f : String) (v : E)
  | ret (e : E)
  | ite (c : E) (a b : SL)
  | for_ (tg : List Nat) (src : It) (body : SL) (kill : List Nat)
  | while_ (c : E) (body : SL) (kill : List Nat)
  | raise (c : String) (es : EL)
  | try_ (body : SL) (c : String) (i : Option Nat) (suite : SL)
  | pass
  | kill (is : List Nat)
inductive SL where
  | nil
  | cons (s : S) (ss : SL)
inductive Fn where
  | mk (np ns : Nat) (keep : Bool) (body : SL)
end

/-! ### loops -/
abbrev Sg := List (Option D)
inductive Fl where
  | nx (σ : Sg)
  | rt (d : D)
  | xc (c : String) (fs : List D) (σ : Sg)
/-- a statement's expression, then the rest -/
def stE {α : Type} (σ : Sg) (r : R α) (f : α → Hh → R Fl) : R Fl := match r with
  | .ok a h => f a h
  | .ex c fs h => .ok (.xc c fs σ) h
  | .bad => .bad
@[simp] theorem stE_ok {α : Type} (σ : Sg) (a : α) (h : Hh) (f : α → Hh → R Fl) : stE σ (R.ok a h) f = f a h := rfl
@[simp] theorem stE_ex {α : Type} (σ : Sg) (c : String) (fs : List D) (h : Hh) (f : α → Hh → R Fl) : stE σ (R.ex (α := α) c fs h) f = .ok (.xc c fs σ) h := rfl
@[simp] theorem stE_bad {α : Type} (σ : Sg) (f : α → Hh → R Fl) : stE σ (R.bad (α := α)) f = .bad := rfl
@[simp] def killAll (σ : Sg) : List Nat → Sg
  | [] => σ
  | i :: is => killAll (σ.set i none) is
/-- targets take a value -/
@[simp] def setAll (σ : Sg) : List Nat → List D → Option Sg
  | [], [] => some σ
  | i :: is, d :: ds => setAll (σ.set i (some d)) is ds
  | _, _ => none
@[simp] def target (h : Hh) (tg : List Nat) (d : D) (σ : Sg) : Option Sg := match tg with
  | [i] => some (σ.set i (some d))
  | is => match d with
    | .tup ds => setAll σ is ds
    | _ => none
/-- lists that are to stand fast while a for walks -/
abbrev Wt := List (Nat × List D)
def watch (w : Wt) (h : Hh) : Prop := ∀ p ∈ w, getL h p.1 = some p.2
open Classical in
noncomputable def ifW {α : Type} (w : Wt) (h : Hh) (r : R α) : R α := if watch w h then r else .bad
/-- a for's turns over what stands fast -/
noncomputable def forL (w : Wt) (f : D → Sg → Hh → R Fl) : List D → Sg → Hh → R Fl
  | [], σ, h => ifW w h (.ok (.nx σ) h)
  | d :: ds, σ, h => ifW w h (match f d σ h with
    | .ok (.nx σ') h' => forL w f ds σ' h'
    | r => r)
noncomputable def compL (w : Wt) (f : D → Hh → R (Option D)) : List D → Hh → R (List D)
  | [], h => ifW w h (.ok [] h)
  | d :: ds, h => ifW w h ((f d h).bind fun o h' => (compL w f ds h').bind fun xs h'' => .ok (match o with | some x => x :: xs | none => xs) h'')
def R.noEx {α : Type} : R α → R α
  | .ok a h => .ok a h
  | _ => .bad
/-- what a for walks: a list's or a tuple's items; a list of ours is watched -/
def srcOf (h : Hh) : D → Option (List D × Wt)
  | .ref n => (getL h n).map fun ds => (ds, [(n, ds)])
  | d => (seqOf h d).map fun ds => (ds, [])
def whileN (c : Sg → Hh → R D) (b : Sg → Hh → R Fl) : Nat → Sg → Hh → R Fl
  | 0, _, _ => .bad
  | n + 1, σ, h => match c σ h with
    | .ok (.bl true) h' => match b σ h' with
      | .ok (.nx σ') h'' => whileN c b n σ' h''
      | r => r
    | .ok (.bl false) h' => .ok (.nx σ) h'
    | .ok _ _ => .bad
    | .ex x fs h' => .ok (.xc x fs σ) h'
    | .bad => .bad
open Classical in
noncomputable def whileL (c : Sg → Hh → R D) (b : Sg → Hh → R Fl) (σ : Sg) (h : Hh) : R Fl :=
  if e : ∃ n, whileN c b n σ h ≠ .bad then whileN c b (choose e) σ h else .bad

theorem whileN_mono (c : Sg → Hh → R D) (b : Sg → Hh → R Fl) : ∀ (n m : Nat) (σ : Sg) (h : Hh), n ≤ m → whileN c b n σ h ≠ .bad → whileN c b m σ h = whileN c b n σ h
  | 0, _, _, _, _, e => absurd rfl e
  | n + 1, 0, _, _, l, _ => absurd l (by omega)
  | n + 1, m + 1, σ, h, l, e => by
    unfold whileN at e ⊢
    cases hc : c σ h with
    | bad => rfl
    | ex x fs h' => rfl
    | ok d h' =>
      rw [hc] at e
      cases d with
      | bl k =>
        cases k with
        | false => rfl
        | true =>
          simp only at e ⊢
          cases hb : b σ h' with
          | bad => rfl
          | ex x fs h' => rfl
          | ok fl h'' =>
            rw [hb] at e
            cases fl with
            | rt d => rfl
            | xc _ _ _ => rfl
            | nx σ' => exact whileN_mono c b n m σ' h'' (by omega) e
      | _ => rfl
theorem whileL_of {c : Sg → Hh → R D} {b : Sg → Hh → R Fl} {σ : Sg} {h : Hh} {n : Nat} (e : whileN c b n σ h ≠ .bad) : whileL c b σ h = whileN c b n σ h := by
  have ex : ∃ n, whileN c b n σ h ≠ .bad := ⟨n, e⟩
  unfold whileL
  rw [dif_pos ex]
  have e2 := Classical.choose_spec ex
  rcases Nat.le_total n (Classical.choose ex) with l | l
  · exact whileN_mono c b _ _ σ h l e
  · exact (whileN_mono c b _ _ σ h l e2).symm
theorem whileL_ex {c : Sg → Hh → R D} {b : Sg → Hh → R Fl} {σ : Sg} {h : Hh} (e : whileL c b σ h ≠ .bad) : ∃ n, whileN c b n σ h ≠ .bad ∧ whileL c b σ h = whileN c b n σ h := by
  by_cases ex : ∃ n, whileN c b n σ h ≠ .bad
  · obtain ⟨n, q⟩ := ex
    exact ⟨n, q, whileL_of q⟩
  · unfold whileL at e
    rw [dif_neg ex] at e
    exact absurd rfl e
/-- one turn -/
theorem whileL_eq (c : Sg → Hh → R D) (b : Sg → Hh → R Fl) (σ : Sg) (h : Hh) : whileL c b σ h = match c σ h with
    | .ok (.bl true) h' => match b σ h' with
      | .ok (.nx σ') h'' => whileL c b σ' h''
      | r => r
    | .ok (.bl false) h' => .ok (.nx σ) h'
    | .ok _ _ => .bad
    | .ex x fs h' => .ok (.xc x fs σ) h'
    | .bad => .bad := by
  have one : ∀ n, whileN c b (n + 1) σ h ≠ .bad → whileL c b σ h = whileN c b (n + 1) σ h := fun n e => whileL_of e
  by_cases ex : ∃ n, whileN c b n σ h ≠ .bad
  · obtain ⟨n, e⟩ := ex
    cases n with
    | zero => exact absurd rfl e
    | succ n =>
      rw [one n e]
      unfold whileN at e ⊢
      cases hc : c σ h with
      | bad => rfl
      | ex x fs h' => rfl
      | ok d h' =>
        rw [hc] at e
        cases d with
        | bl k =>
          cases k with
          | false => rfl
          | true =>
            simp only at e ⊢
            cases hb : b σ h' with
            | bad => rfl
            | ex x fs h' => rfl
            | ok fl h'' =>
              rw [hb] at e
              cases fl with
              | rt d => rfl
              | xc _ _ _ => rfl
              | nx σ' => exact (whileL_of e).symm
        | _ => rfl
  · have nb : whileL c b σ h = .bad := by unfold whileL; rw [dif_neg ex]
    rw [nb]
    have z : ∀ n, whileN c b n σ h = .bad := fun n => by
      by_cases q : whileN c b n σ h = .bad
      · exact q
      · exact absurd ⟨n, q⟩ ex
    cases hc : c σ h with
    | bad => rfl
    | ex x fs h' =>
      have := z 1
      unfold whileN at this
      rw [hc] at this
      exact this.symm
    | ok d h' =>
      cases d with
      | bl k =>
        cases k with
        | false =>
          have := z 1
          unfold whileN at this
          rw [hc] at this
          exact this.symm
        | true =>
          simp only
          cases hb : b σ h' with
          | bad => rfl
          | ex x fs h'' =>
            have := z 1
            unfold whileN at this
            rw [hc] at this
            simp only [hb] at this
            exact this.symm
          | ok fl h'' =>
            cases fl with
            | rt d =>
              have := z 1
              unfold whileN at this
              rw [hc] at this
              simp only [hb] at this
              exact this.symm
            | xc _ _ _ =>
              have := z 1
              unfold whileN at this
              rw [hc] at this
              simp only [hb] at this
              exact this.symm
            | nx σ' =>
              simp only
              by_cases ex2 : ∃ n, whileN c b n σ' h'' ≠ .bad
              · obtain ⟨n, e⟩ := ex2
                have := z (n + 1)
                unfold whileN at this
                rw [hc] at this
                simp only [hb] at this
                exact absurd this e
              · unfold whileL
                rw [dif_neg ex2]
      | _ => rfl

/-! ### the evaluator -/
/-- what comes back of a call whose own objects begin at b: they go, a told list of plain things stays as one -/
def fin (keep : Bool) (b : Nat) (d : D) (h : Hh) : R D :=
  if keep then .ok d h
  else if d.und b then .ok d (h.take b)
  else match d with
    | .ref n => match getL h n with
      | some ds => if D.unds b ds then .ok (.lst ds) (h.take b) else .bad
      | none => .bad
    | _ => .bad
def getF (h : Hh) (n : Nat) (f : String) : Option D := match h[n]? with
  | some (.ins _ fs) => fs.lookup f
  | _ => none
def putF (f : String) (v : D) : List (String × D) → List (String × D)
  | [] => [(f, v)]
  | (g, w) :: r => if g == f then (g, v) :: r else (g, w) :: putF f v r
def setItem (l : List Nat) (h : Hh) (o i v : D) : R Unit := match o, i with
  | .ref n, .int k => match getL h n with
    | some xs => match ixAt xs.length k with
      | some j => if stOk l n v then .ok () (h.set n (.lst (xs.set j v))) else .bad
      | none => .bad
    | none => .bad
  | _, _ => .bad
def setFld (l : List Nat) (h : Hh) (o : D) (f : String) (v : D) : R Unit := match o with
  | .ref n => match h[n]? with
    | some (.ins c fs) => if stOk l n v && decide (fs.length < 1000) then .ok () (h.set n (.ins c (putF f v fs))) else .bad
    | _ => .bad
  | _ => .bad
def enumD (xs : List D) : List D := (List.range xs.length).zip xs |>.map fun p => .tup [.int p.1, p.2]
def zipD (xs ys : List D) : List D := (xs.zip ys).map fun p => .tup [p.1, p.2]
/-- what is asked to be a truth -/
@[simp] def boolV {α : Type} (f : Bool → Hh → R α) : D → Hh → R α
  | .bl b, h => f b h
  | _, _ => .bad
@[simp] def optV {α : Type} (n : Bool) (f : Option Int → Hh → R α) (d : D) (h : Hh) : R α := match n, d with
  | true, _ => f none h
  | false, .int i => f (some i) h
  | _, _ => .bad
@[simp] def negV (h : Hh) : D → R D
  | .int i => .ok (.int (-i)) h
  | _ => .bad
@[simp] def isNon : D → Bool
  | .non => true
  | _ => false
def isBV (b : Bool) (h : Hh) : D → R D
  | .bl c => .ok (.bl (decide (c = b))) h
  | .non => .ok (.bl false) h
  | _ => .bad
def notBV (b : Bool) (h : Hh) : D → R D
  | .bl c => .ok (.bl (!decide (c = b))) h
  | .non => .ok (.bl true) h
  | _ => .bad
def ixV (h : Hh) (x y : D) : R D := match x, y with
  | .str s, .int i => match atD s.cps.toList i with
    | some c => if s.length ≤ sizeLine then .ok (.str ⟨#[c]⟩) h else .bad
    | none => .bad
  | x, .int i => match (seqOf h x).bind fun xs => atD xs i with
    | some d => .ok d h
    | none => .bad
  | _, _ => .bad
def slV (h : Hh) (x : D) (i j : Option Int) : R D := match x with
  | .tup xs => .ok (.tup (cut xs i j)) h
  | .str s => .bad
  | x => match listOf h x with
    | some xs => .ok (.lst (cut xs i j)) h
    | none => .bad
def revV (h : Hh) (x : D) : R D := match listOf h x with
    | some xs => .ok (.lst xs.reverse) h
    | none => .bad
def isAny (h : Hh) (x : D) : List Ty → Option Bool
  | [] => some false
  | t :: ts => match isTy h x t with
    | some true => some true
    | some false => isAny h x ts
    | none => none
def isinV (ts : List Ty) (h : Hh) (x : D) : R D := match isAny h x ts with
  | some b => .ok (.bl b) h
  | none => .bad
def allocV (h : Hh) : D → R D
  | .lst ds => .ok (.ref h.length) (h ++ [.lst ds])
  | _ => .bad
def fldV (f : String) (h : Hh) : D → R D
  | .ref n => match getF h n f with
    | some d => .ok d h
    | none => .bad
  | _ => .bad
/-- the receiver is an instance of the class -/
def insV (c : String) (h : Hh) (r : R D) : D → R D
  | .ref n => match h[n]? with
    | some (.ins c' _) => if c' = c then r else .bad
    | _ => .bad
  | _ => .bad
def madeV (n : Nat) : D → Hh → R D
  | .non, h => .ok (.ref n) h
  | _, _ => .bad
@[simp] def varV (σ : Sg) (i : Nat) (h : Hh) : R D := match σ[i]? with
  | some (some d) => .ok d h
  | _ => .bad
@[simp] def someV {α : Type} (h : Hh) : Option α → R α
  | some x => .ok x h
  | none => .bad
/-- behind a turn: slots are forgotten -/
@[simp] def killV (is : List Nat) : Fl → Hh → R Fl
  | .nx σ, h => .ok (.nx (killAll σ is)) h
  | fl, h => .ok fl h
@[simp] def bindT {α : Type} (h : Hh) (tg : List Nat) (d : D) (σ : Sg) (f : Sg → R α) : R α := match target h tg d σ with
  | some σ' => f σ'
  | none => .bad
/-- a loop's turn -/
def thenK (is : List Nat) (f : Sg → Hh → R Fl) (σ : Sg) (h : Hh) : R Fl := (f σ h).bind (killV is)
def turnK (tg is : List Nat) (f : Sg → Hh → R Fl) (d : D) (σ : Sg) (h : Hh) : R Fl := bindT h tg d σ fun σ' => (f σ' h).bind (killV is)
def itemK (tg : List Nat) (σ : Sg) (no : Bool) (fc fe : Sg → Hh → R D) (d : D) (h : Hh) : R (Option D) := bindT h tg d (killAll σ tg) fun σ' =>
  if no = true then (fe σ' h).bind fun x h => .ok (some x) h
  else (fc σ' h).bind (boolV fun k h => if k = true then (fe σ' h).bind fun x h => .ok (some x) h else .ok none h)
@[simp] def seqFl (f : Sg → Hh → R Fl) : Fl → Hh → R Fl
  | .nx σ, h => f σ h
  | fl, h => .ok fl h
def rgV (a b : D) (h : Hh) : R (List D × Wt) := match a, b with
  | .int i, .int j => if rgOk i j then .ok (rg i j, []) h else .bad
  | _, _ => .bad
@[simp] def isNo : E → Bool
  | .no => true
  | _ => false
@[simp] def endF (keep : Bool) (b : Nat) : R Fl → R D
  | .ok (.nx _) h => fin keep b .non h
  | .ok (.rt d) h => fin keep b d h
  | .ok (.xc c fs _) h => if keep then .ex c fs h else if D.unds b fs then .ex c fs (h.take b) else .bad
  | .ex _ _ _ => .bad
  | .bad => .bad
@[simp] def parV (i j : Nat) (σ : Sg) (h : Hh) : List D → R Fl
  | [x, y] => .ok (.nx ((σ.set i (some x)).set j (some y))) h
  | _ => .bad
@[simp] def unpV (is : List Nat) (σ : Sg) (h : Hh) : D → R Sg
  | .tup ds => someV h (setAll σ is ds)
  | _ => .bad

mutual
noncomputable def evE (l : List Nat) : E → Sg → Hh → R D
  | .no, _, h => .ok .non h
  | .var i, σ, h => varV σ i h
  | .cst d, _, h => .ok d h
  | .glob _ d, _, h => .ok d h
  | .bop o a b, σ, h => (evE l a σ h).bind fun x h => (evE l b σ h).bind fun y h => bop o h x y
  | .neg a, σ, h => (evE l a σ h).bind fun x h => negV h x
  | .not a, σ, h => (evE l a σ h).bind (boolV fun b h => .ok (.bl (!b)) h)
  | .and a b, σ, h => (evE l a σ h).bind (boolV fun x h => if x = true then evE l b σ h else .ok (.bl false) h)
  | .or a b, σ, h => (evE l a σ h).bind (boolV fun x h => if x = true then .ok (.bl true) h else evE l b σ h)
  | .cmp o a b, σ, h => (evE l a σ h).bind fun x h => (evE l b σ h).bind fun y h => cop o h x y
  | .chain o p a b c, σ, h => (evE l a σ h).bind fun x h => (evE l b σ h).bind fun y h => (cop o h x y).bind (boolV fun k h =>
      if k = true then (evE l c σ h).bind fun z h => cop p h y z else .ok (.bl false) h)
  | .isN a, σ, h => (evE l a σ h).bind fun x h => .ok (.bl (isNon x)) h
  | .notN a, σ, h => (evE l a σ h).bind fun x h => .ok (.bl (!isNon x)) h
  | .isB a b, σ, h => (evE l a σ h).bind fun x h => isBV b h x
  | .notB a b, σ, h => (evE l a σ h).bind fun x h => notBV b h x
  | .ite c a b, σ, h => (evE l c σ h).bind (boolV fun k h => if k = true then evE l a σ h else evE l b σ h)
  | .tup es, σ, h => (evL l es σ h).bind fun ds h => if ds.length ≤ sizeLine then .ok (.tup ds) h else .bad
  | .lst es, σ, h => (evL l es σ h).bind fun ds h => if ds.length ≤ sizeLine then .ok (.lst ds) h else .bad
  | .ix a b, σ, h => (evE l a σ h).bind fun x h => (evE l b σ h).bind fun y h => ixV h x y
  | .sl a lo hi, σ, h => (evE l a σ h).bind fun x h => (evE l lo σ h).bind (optV (isNo lo) fun i h => (evE l hi σ h).bind (optV (isNo hi) fun j h => slV h x i j))
  | .rev a, σ, h => (evE l a σ h).bind fun x h => revV h x
  | .call _ f es, σ, h => (evL l es σ h).bind fun ds h => callF l f ds h
  | .blt b es, σ, h => (evL l es σ h).bind fun ds h => blt b h ds
  | .isin a ts, σ, h => (evE l a σ h).bind fun x h => isinV ts h x
  | .comp e tg src c, σ, h => (evI l src σ h).bind fun xw h => (compL xw.2 (itemK tg σ (isNo c) (evE l c) (evE l e)) xw.1 h).noEx.bind fun ds h => if ds.length < sizeLine then .ok (.lst ds) h else .bad
  | .alloc e, σ, h => (evE l e σ h).bind fun x h => allocV h x
  | .fld a f, σ, h => (evE l a σ h).bind fun x h => fldV f h x
  | .meth c _ f a es, σ, h => (evE l a σ h).bind fun x h => insV c h ((evL l es σ h).bind fun ds h => callF l f (x :: ds) h) x
  | .make c f es, σ, h => (evL l es σ h).bind fun ds h => (callF l f (.ref h.length :: ds) (h ++ [.ins c []])).bind (madeV h.length)
  | .bm m a es, σ, h => (evE l a σ h).bind fun x h => if recv (bmTy m) h x = true then (evL l es σ h).bind fun ds h => bm m l h x ds else .bad
noncomputable def evL (l : List Nat) : EL → Sg → Hh → R (List D)
  | .nil, _, h => .ok [] h
  | .cons e es, σ, h => (evE l e σ h).bind fun x h => (evL l es σ h).bind fun xs h => .ok (x :: xs) h
noncomputable def evI (l : List Nat) : It → Sg → Hh → R (List D × Wt)
  | .seq a, σ, h => (evE l a σ h).bind fun x h => someV h (srcOf h x)
  | .rg1 a, σ, h => (evE l a σ h).bind fun x h => rgV (.int 0) x h
  | .rg2 a b, σ, h => (evE l a σ h).bind fun x h => (evE l b σ h).bind fun y h => rgV x y h
  | .enum a, σ, h => (evE l a σ h).bind fun x h => (someV h (srcOf h x)).bind fun xw h => .ok (enumD xw.1, xw.2) h
  | .zip a b, σ, h => (evE l a σ h).bind fun x h => (evE l b σ h).bind fun y h => (someV h (srcOf h x)).bind fun xw h => (someV h (srcOf h y)).bind fun yw h => .ok (zipD xw.1 yw.1, xw.2 ++ yw.2) h
noncomputable def exS (l : List Nat) : S → Sg → Hh → R Fl
  | .ex e, σ, h => stE σ (evE l e σ h) fun _ h => .ok (.nx σ) h
  | .set i e, σ, h => stE σ (evE l e σ h) fun x h => .ok (.nx (σ.set i (some x))) h
  | .unp is e, σ, h => stE σ (evE l e σ h) fun x h => stE σ (unpV is σ h x) fun σ' h => .ok (.nx σ') h
  | .par i j es, σ, h => stE σ (evL l es σ h) fun ds h => parV i j σ h ds
  | .ixSet o i v, σ, h => stE σ (evE l v σ h) fun z h => stE σ (evE l o σ h) fun x h => stE σ (evE l i σ h) fun y h => stE σ (setItem l h x y z) fun _ h => .ok (.nx σ) h
  | .fldSet o f v, σ, h => stE σ (evE l v σ h) fun z h => stE σ (evE l o σ h) fun x h => stE σ (setFld l h x f z) fun _ h => .ok (.nx σ) h
  | .ret e, σ, h => stE σ (evE l e σ h) fun x h => .ok (.rt x) h
  | .ite c a b, σ, h => stE σ (evE l c σ h) (boolV fun k h => if k = true then exL l a σ h else exL l b σ h)
  | .for_ tg src body kill, σ, h => stE σ (evI l src σ h) fun xw h => forL xw.2 (turnK tg kill (exL l body)) xw.1 (killAll σ kill) h
  | .while_ c body kill, σ, h => whileL (evE l c) (thenK kill (exL l body)) (killAll σ kill) h
  | .raise c es, σ, h => stE σ (evL l es σ h) fun ds h => .ok (.xc c ds σ) h
  | .try_ body c i suite, σ, h => match exL l body σ h with
    | .ok (.xc c' fs σ') h' => if excSub c' c then (exL l suite (match i with | some i => σ'.set i (some (.exc c' fs)) | none => σ') h').bind (killV (match i with | some i => [i] | none => []))
      else .ok (.xc c' fs σ') h'
    | r => r
  | .pass, σ, h => .ok (.nx σ) h
  | .kill is, σ, h => .ok (.nx (killAll σ is)) h
noncomputable def exL (l : List Nat) : SL → Sg → Hh → R Fl
  | .nil, σ, h => .ok (.nx σ) h
  | .cons s ss, σ, h => (exS l s σ h).bind (seqFl fun σ' h' => exL l ss σ' h')
noncomputable def callF (l : List Nat) : Fn → List D → Hh → R D
  | .mk np ns keep body, ds, h => if ds.length = np ∧ np ≤ ns then
      endF keep h.length (exL (if keep then l else h.length :: l) body (ds.map some ++ List.replicate (ns - np) none) h)
    else .bad
end
end Mp

set_option maxRecDepth 100000
/-! Mp2a: how values and the small heap are borne by the machine's heap. -/
namespace Mp
open PySem PySem.Spec PyProof.Rows L2

abbrev Ads := Addr → Prop
/-- a tuple of ours, or of the module's -/
def Tp (K : PySem.W.Frag) (H : Hp) (a : Addr) (xs : List V) : Prop := H a = some (.tup xs) ∨
  ∃ (o : Obj) (its : Array Value) (n : Nat), K.lookup a = some o ∧ o.cls = .type "tuple" ∧ o.data = .seq its n ∧ its.size ≤ sizeLine ∧ Vals xs its.toList
/-- the script -/
def Sc (K : PySem.W.Frag) (H : Hp) (a : Addr) (xs : List V) : Prop := (∃ o, H a = some (.frz o (.lst xs))) ∨
  ∃ (o : Obj) (its : Array Value) (n : Nat), K.lookup a = some o ∧ o.cls = .type "list" ∧ o.dict = none ∧ o.data = .seq its n ∧ its.size ≤ sizeLine ∧ Vals xs its.toList
theorem Tp.sq {K : PySem.W.Frag} {H : Hp} {a : Addr} {xs : List V} (h : Tp K H a xs) : SqT K H a xs := by
  rcases h with h | h
  · exact .inl (.inl h)
  · exact .inr h
theorem Sc.sq {K : PySem.W.Frag} {H : Hp} {a : Addr} {xs : List V} (h : Sc K H a xs) : SqL K H a xs := by
  rcases h with h | h
  · exact .inl (.inr h)
  · exact .inr h
section
variable (K : PySem.W.Frag) (φ : List Addr) (χ : Ads) (H : Hp)
mutual
inductive RV : D → V → Prop
  | non : RV .non .non
  | bl (b : Bool) : RV (.bl b) (.bl b)
  | int (i : Int) : RV (.int i) (.int i)
  | str (s : Str) : RV (.str s) (.str s)
  | tup {a : Addr} {vs : List V} {ds : List D} : Tp K H a vs → RVs ds vs → RV (.tup ds) (.ref a)
  | lst {a : Addr} {vs : List V} {ds : List D} : ¬ χ a → H a = some (.lst vs) → RVs ds vs → RV (.lst ds) (.ref a)
  | ref {n : Nat} {a : Addr} : φ[n]? = some a → RV (.ref n) (.ref a)
  | scr {a : Addr} {ns : List Int} : Sc K H a (ns.map V.int) → RV (.scr ns) (.ref a)
inductive RVs : List D → List V → Prop
  | nil : RVs [] []
  | cons {d : D} {v : V} {ds : List D} {vs : List V} : RV d v → RVs ds vs → RVs (d :: ds) (v :: vs)
end
end
/-- what an object of the small heap is -/
inductive OV (K : PySem.W.Frag) (mg : Str → Option Value) (φ : List Addr) (χ : Ads) (H : Hp) : Ob → Addr → Prop
  | lst {ds : List D} {a : Addr} {vs : List V} : H a = some (.lst vs) → RVs K φ χ H ds vs → OV K mg φ χ H (.lst ds) a
  | ins {c : String} {fs : List (String × D)} {a C dx : Addr} {gs : List (Str × V)} : mg (Str.ofString c) = some (.ref C) → H a = some (.ins C dx gs) → gs.map (·.1) = fs.map (fun p => Str.ofString p.1) → RVs K φ χ H (fs.map (·.2)) (gs.map (·.2)) → OV K mg φ χ H (.ins c fs) a
/-- what it holds is below b -/
def Ob.und (b : Nat) : Ob → Prop
  | .lst ds => D.unds b ds = true
  | .ins _ fs => ∀ p ∈ fs, p.2.und b = true
  | .dk kvs => ∀ p ∈ kvs, p.2.und b = true
  | .dt kvs => ∀ p ∈ kvs, p.2.und b = true
structure HR (K : PySem.W.Frag) (mg : Str → Option Value) (φ : List Addr) (χ : Ads) (H : Hp) (l : List Nat) (h : Hh) : Prop where
  len : φ.length = h.length
  nd : φ.Nodup
  sub : ∀ a ∈ φ, χ a
  ob : ∀ (n : Nat) (a : Addr) (o : Ob), φ[n]? = some a → h[n]? = some o → OV K mg φ χ H o a
  lim : ∀ b ∈ l, ∀ (n : Nat) (o : Ob), n < b → h[n]? = some o → o.und b
  top : ∀ b ∈ l, b ≤ h.length
  ch : ∀ a, χ a → H a ≠ none
/-- a later state, for values -/
structure ExtW (φ : List Addr) (χ : Ads) (H : Hp) (φ' : List Addr) (χ' : Ads) (H' : Hp) : Prop where
  pre : ∃ r, φ' = φ ++ r
  sub : ∀ a, χ a → χ' a
  new : ∀ a, χ' a → ¬ χ a → H a = none
  keep : ∀ a o, ¬ χ a → H a = some o → H' a = some o
  tups : ∀ a xs, H a = some (.tup xs) → H' a = some (.tup xs)
  frl : ∀ a o xs, H a = some (.frz o (.lst xs)) → H' a = some (.frz o (.lst xs))
/-- a later state -/
structure Ext (φ : List Addr) (χ : Ads) (H : Hp) (φ' : List Addr) (χ' : Ads) (H' : Hp) : Prop extends ExtW φ χ H φ' χ' H' where
  kp : ∀ a o, a ∉ φ → H a = some o → H' a = some o
  fr : ∀ a ∈ φ', a ∉ φ → H a = none
section
variable {K : PySem.W.Frag} {mg : Str → Option Value} {φ φ' φ1 φ2 : List Addr} {χ χ' χ1 χ2 : Ads} {H H' H1 H2 : Hp} {l : List Nat} {h h' : Hh}
theorem ExtW.refl : ExtW φ χ H φ χ H := ⟨⟨[], by simp⟩, fun _ h => h, fun _ h n => absurd h n, fun _ _ _ h => h, fun _ _ h => h, fun _ _ _ h => h⟩
theorem Ext.refl : Ext φ χ H φ χ H := ⟨.refl, fun _ _ _ h => h, fun _ h n => absurd h n⟩
theorem ExtW.trans (a : ExtW φ χ H φ1 χ1 H1) (b : ExtW φ1 χ1 H1 φ2 χ2 H2) : ExtW φ χ H φ2 χ2 H2 := by
  refine ⟨?_, fun x hx => b.sub x (a.sub x hx), fun x hx hn => ?_, fun x o hn ho => ?_, fun x xs h => b.tups x xs (a.tups x xs h), fun x o xs h => b.frl x o xs (a.frl x o xs h)⟩
  · obtain ⟨r, e⟩ := a.pre
    obtain ⟨r2, e2⟩ := b.pre
    exact ⟨r ++ r2, by rw [e2, e, List.append_assoc]⟩
  · by_cases h1 : χ1 x
    · exact a.new x h1 hn
    · have q := b.new x hx h1
      cases e : H x with
      | none => rfl
      | some o => rw [a.keep x o hn e] at q; cases q
  · have h1 := a.keep x o hn ho
    refine b.keep x o (fun h => ?_) h1
    rw [a.new x h hn] at ho; cases ho
theorem Ext.trans (a : Ext φ χ H φ1 χ1 H1) (b : Ext φ1 χ1 H1 φ2 χ2 H2) : Ext φ χ H φ2 χ2 H2 := by
  have nin : ∀ x o, x ∉ φ → H x = some o → x ∉ φ1 := fun x o hn ho h1 => by rw [a.fr x h1 hn] at ho; cases ho
  refine ⟨a.toExtW.trans b.toExtW, fun x o hn ho => b.kp x o (nin x o hn ho) (a.kp x o hn ho), fun x hx hn => ?_⟩
  by_cases h1 : x ∈ φ1
  · exact a.fr x h1 hn
  · have q := b.fr x hx h1
    cases e : H x with
    | none => rfl
    | some o => rw [a.kp x o hn e] at q; cases q
/-- what stands and is not ours is not ours later -/
theorem ExtW.out (x : ExtW φ χ H φ' χ' H') {a : Addr} {o : HO} (hn : ¬ χ a) (ho : H a = some o) : ¬ χ' a := fun h => by
  rw [x.new a h hn] at ho; cases ho
theorem ExtW.at (x : ExtW φ χ H φ' χ' H') {n : Nat} {a : Addr} (h : φ[n]? = some a) : φ'[n]? = some a := by
  obtain ⟨r, e⟩ := x.pre
  rw [e, List.getElem?_append_left (List.getElem?_eq_some_iff.mp h).1]
  exact h
theorem Tp.extW (x : ExtW φ χ H φ' χ' H') {a : Addr} {vs : List V} (h : Tp K H a vs) : Tp K H' a vs := by
  rcases h with h | h
  · exact .inl (x.tups _ _ h)
  · exact .inr h
theorem Sc.extW (x : ExtW φ χ H φ' χ' H') {a : Addr} {vs : List V} (h : Sc K H a vs) : Sc K H' a vs := by
  rcases h with ⟨o, h⟩ | h
  · exact .inl ⟨o, x.frl _ _ _ h⟩
  · exact .inr h
mutual
theorem RV.extW (x : ExtW φ χ H φ' χ' H') : ∀ {d : D} {v : V}, RV K φ χ H d v → RV K φ' χ' H' d v
  | _, _, .non => .non
  | _, _, .bl b => .bl b
  | _, _, .int i => .int i
  | _, _, .str s => .str s
  | _, _, .tup t r => .tup (t.extW x) (RVs.extW x r)
  | _, _, .lst n t r => .lst (x.out n t) (x.keep _ _ n t) (RVs.extW x r)
  | _, _, .ref e => .ref (x.at e)
  | _, _, .scr s => .scr (s.extW x)
theorem RVs.extW (x : ExtW φ χ H φ' χ' H') : ∀ {d : List D} {v : List V}, RVs K φ χ H d v → RVs K φ' χ' H' d v
  | _, _, .nil => .nil
  | _, _, .cons r t => .cons (RV.extW x r) (RVs.extW x t)
end
theorem Tp.ext (x : Ext φ χ H φ' χ' H') {a : Addr} {vs : List V} (h : Tp K H a vs) : Tp K H' a vs := h.extW x.toExtW
theorem Sc.ext (x : Ext φ χ H φ' χ' H') {a : Addr} {vs : List V} (h : Sc K H a vs) : Sc K H' a vs := h.extW x.toExtW
theorem RV.ext (x : Ext φ χ H φ' χ' H') {d : D} {v : V} (r : RV K φ χ H d v) : RV K φ' χ' H' d v := r.extW x.toExtW
theorem RVs.ext (x : Ext φ χ H φ' χ' H') {d : List D} {v : List V} (r : RVs K φ χ H d v) : RVs K φ' χ' H' d v := r.extW x.toExtW
theorem Ext.out (x : Ext φ χ H φ' χ' H') {a : Addr} {o : HO} (hn : ¬ χ a) (ho : H a = some o) : ¬ χ' a := x.toExtW.out hn ho
theorem Ext.at (x : Ext φ χ H φ' χ' H') {n : Nat} {a : Addr} (h : φ[n]? = some a) : φ'[n]? = some a := x.toExtW.at h
/-! less is ours -/
mutual
theorem RV.less (s : ∀ a, χ' a → χ a) : ∀ {d : D} {v : V}, RV K φ χ H d v → RV K φ χ' H d v
  | _, _, .non => .non
  | _, _, .bl b => .bl b
  | _, _, .int i => .int i
  | _, _, .str s => .str s
  | _, _, .tup t r => .tup t (RVs.less s r)
  | _, _, .lst n t r => .lst (fun q => n (s _ q)) t (RVs.less s r)
  | _, _, .ref e => .ref e
  | _, _, .scr s => .scr s
theorem RVs.less (s : ∀ a, χ' a → χ a) : ∀ {d : List D} {v : List V}, RVs K φ χ H d v → RVs K φ χ' H d v
  | _, _, .nil => .nil
  | _, _, .cons r t => .cons (RV.less s r) (RVs.less s t)
end
/-! cut to older objects -/
mutual
theorem RV.old {b : Nat} (hb : φ'.take b = φ.take b) : ∀ {d : D} {v : V}, RV K φ χ H d v → d.und b = true → RV K φ' χ H d v
  | _, _, .non, _ => .non
  | _, _, .bl b, _ => .bl b
  | _, _, .int i, _ => .int i
  | _, _, .str s, _ => .str s
  | _, _, .tup t r, u => .tup t (RVs.old hb r (by simpa [D.und] using u))
  | _, _, .lst n t r, u => .lst n t (RVs.old hb r (by simpa [D.und] using u))
  | _, _, .ref (n := n) (a := a) e, u => .ref (by
      have hn : n < b := by simpa [D.und] using u
      have e1 : (φ.take b)[n]? = some a := by rw [List.getElem?_take_of_lt hn]; exact e
      rw [← hb, List.getElem?_take_of_lt hn] at e1
      exact e1)
  | _, _, .scr s, _ => .scr s
theorem RVs.old {b : Nat} (hb : φ'.take b = φ.take b) : ∀ {d : List D} {v : List V}, RVs K φ χ H d v → D.unds b d = true → RVs K φ' χ H d v
  | _, _, .nil, _ => .nil
  | _, _, .cons (d := d) (ds := ds) r t, u => by
    have u' : d.und b = true ∧ D.unds b ds = true := by simpa [D.unds] using u
    exact .cons (RV.old hb r u'.1) (RVs.old hb t u'.2)
end
mutual
/-- no ref beyond the heap -/
theorem RV.und : ∀ {d : D} {v : V}, RV K φ χ H d v → d.und φ.length = true
  | _, _, .non => by simp [D.und]
  | _, _, .bl b => by simp [D.und]
  | _, _, .int i => by simp [D.und]
  | _, _, .str s => by simp [D.und]
  | _, _, .tup t r => by simpa [D.und] using RVs.und r
  | _, _, .lst n t r => by simpa [D.und] using RVs.und r
  | _, _, .ref e => by simpa [D.und] using (List.getElem?_eq_some_iff.mp e).1
  | _, _, .scr s => by simp [D.und]
theorem RVs.und : ∀ {d : List D} {v : List V}, RVs K φ χ H d v → D.unds φ.length d = true
  | _, _, .nil => by simp [D.unds]
  | _, _, .cons r t => by simpa [D.unds] using ⟨RV.und r, RVs.und t⟩
end
theorem OV.extW (x : ExtW φ χ H φ' χ' H') {o : Ob} {a : Addr} (n : H' a = H a) (h : OV K mg φ χ H o a) : OV K mg φ' χ' H' o a := by
  cases h with
  | lst e r => exact .lst (by rw [n]; exact e) (r.extW x)
  | ins e1 e2 e3 e4 => exact .ins e1 (by rw [n]; exact e2) e3 (e4.extW x)
theorem OV.ext (x : Ext φ χ H φ' χ' H') {o : Ob} {a : Addr} (n : H' a = H a) (h : OV K mg φ χ H o a) : OV K mg φ' χ' H' o a := h.extW x.toExtW n
theorem OV.less (s : ∀ a, χ' a → χ a) {o : Ob} {a : Addr} (h : OV K mg φ χ H o a) : OV K mg φ χ' H o a := by
  cases h with
  | lst e r => exact .lst e (r.less s)
  | ins e1 e2 e3 e4 => exact .ins e1 e2 e3 (e4.less s)
theorem HR.less (s : ∀ a, χ' a → χ a) (hs : ∀ a ∈ φ, χ' a) (r : HR K mg φ χ H l h) : HR K mg φ χ' H l h :=
  ⟨r.len, r.nd, hs, fun n a o e1 e2 => (r.ob n a o e1 e2).less s, r.lim, r.top, fun a q => r.ch a (s a q)⟩
theorem RVs.length {ds : List D} {vs : List V} (r : RVs K φ χ H ds vs) : ds.length = vs.length := by
  induction vs generalizing ds with
  | nil => cases r; rfl
  | cons v vs ih => cases r with | cons a b => simp [ih b]
theorem RVs.get {ds : List D} {vs : List V} (r : RVs K φ χ H ds vs) {i : Nat} {d : D} (e : ds[i]? = some d) : ∃ v, vs[i]? = some v ∧ RV K φ χ H d v := by
  induction vs generalizing ds i with
  | nil => cases r; simp at e
  | cons v vs ih =>
    cases r with
    | cons a b =>
      cases i with
      | zero => simp at e; subst e; exact ⟨v, by simp, a⟩
      | succ i => simpa using ih b (by simpa using e)
theorem RVs.append : ∀ {ds es : List D} {vs ws : List V}, RVs K φ χ H ds vs → RVs K φ χ H es ws → RVs K φ χ H (ds ++ es) (vs ++ ws)
  | _, _, _, _, .nil, s => s
  | _, _, _, _, .cons r t, s => .cons r (RVs.append t s)
theorem RVs.set {d : D} {v : V} (r : RV K φ χ H d v) : ∀ {ds : List D} {vs : List V} (i : Nat), RVs K φ χ H ds vs → RVs K φ χ H (ds.set i d) (vs.set i v)
  | _, _, _, .nil => .nil
  | _, _, 0, .cons _ t => .cons r t
  | _, _, i + 1, .cons q t => .cons q (RVs.set r i t)
theorem RVs.take : ∀ {ds : List D} {vs : List V} (n : Nat), RVs K φ χ H ds vs → RVs K φ χ H (ds.take n) (vs.take n)
  | _, _, 0, _ => by simpa using RVs.nil
  | _, _, _ + 1, .nil => .nil
  | _, _, n + 1, .cons r t => .cons r (RVs.take n t)
theorem RVs.drop : ∀ {ds : List D} {vs : List V} (n : Nat), RVs K φ χ H ds vs → RVs K φ χ H (ds.drop n) (vs.drop n)
  | _, _, 0, r => r
  | _, _, _ + 1, .nil => .nil
  | _, _, n + 1, .cons _ t => RVs.drop n t
theorem RVs.rev : ∀ {ds : List D} {vs : List V}, RVs K φ χ H ds vs → RVs K φ χ H ds.reverse vs.reverse
  | _, _, .nil => .nil
  | _, _, .cons r t => by
    rw [List.reverse_cons, List.reverse_cons]
    exact (RVs.rev t).append (.cons r .nil)
theorem RVs.erase : ∀ {ds : List D} {vs : List V} (i : Nat), RVs K φ χ H ds vs → RVs K φ χ H (ds.eraseIdx i) (vs.eraseIdx i)
  | _, _, _, .nil => .nil
  | _, _, 0, .cons r t => t
  | _, _, n + 1, .cons r t => .cons r (RVs.erase n t)
theorem RVs.ints : ∀ (ns : List Int), RVs K φ χ H (ns.map D.int) (ns.map V.int)
  | [] => .nil
  | n :: ns => .cons (.int n) (RVs.ints ns)

/-- the slots -/
structure RS (K : PySem.W.Frag) (φ : List Addr) (χ : Ads) (H : Hp) (σ : Sg) (τ : L2.St) : Prop where
  len : σ.length = τ.length
  at_ : ∀ (i : Nat) (d : D), σ[i]? = some (some d) → ∃ v, τ[i]? = some (some v) ∧ RV K φ χ H d v
theorem RS.extW (x : ExtW φ χ H φ' χ' H') {σ : Sg} {τ : L2.St} (r : RS K φ χ H σ τ) : RS K φ' χ' H' σ τ := ⟨r.len, fun i d e => by
  obtain ⟨v, q1, q2⟩ := r.at_ i d e
  exact ⟨v, q1, q2.extW x⟩⟩
theorem RS.ext (x : Ext φ χ H φ' χ' H') {σ : Sg} {τ : L2.St} (r : RS K φ χ H σ τ) : RS K φ' χ' H' σ τ := r.extW x.toExtW
theorem RS.set {σ : Sg} {τ : L2.St} (r : RS K φ χ H σ τ) (i : Nat) {d : D} {v : V} (q : RV K φ χ H d v) : RS K φ χ H (σ.set i (some d)) (τ.set i (some v)) := by
  refine ⟨by simp [r.len], fun j e he => ?_⟩
  by_cases hj : i = j
  · subst hj
    by_cases hl : i < σ.length
    · rw [List.getElem?_set_self hl] at he
      cases he
      exact ⟨v, List.getElem?_set_self (by rw [← r.len]; exact hl), q⟩
    · rw [List.getElem?_eq_none (by simpa using hl)] at he; cases he
  · rw [List.getElem?_set_ne hj] at he ⊢
    exact r.at_ j e he
theorem RS.none {σ : Sg} {τ : L2.St} (r : RS K φ χ H σ τ) (i : Nat) : RS K φ χ H (σ.set i none) τ := by
  refine ⟨by simp [r.len], fun j e he => ?_⟩
  by_cases hj : i = j
  · subst hj
    by_cases hl : i < σ.length
    · rw [List.getElem?_set_self hl] at he; cases he
    · rw [List.getElem?_eq_none (by simpa using hl)] at he; cases he
  · rw [List.getElem?_set_ne hj] at he
    exact r.at_ j e he
theorem RS.kill {τ : L2.St} : ∀ (is : List Nat) {σ : Sg}, RS K φ χ H σ τ → RS K φ χ H (killAll σ is) τ
  | [], _, r => r
  | i :: is, _, r => RS.kill is (r.none i)
end
end Mp

set_option maxRecDepth 100000
/-! Mp2b: readings of expressions. -/
namespace Mp
open PySem PySem.Spec PyProof.Rows L2

/-- an expression that makes a new list (or gives something else) -/
def Blt.fresh : Blt → Bool
  | .list => true | .listR1 => true | .listR2 => true | .sorted => true | .sortedSet => true
  | _ => false
def E.fresh : E → Bool
  | .lst _ => true
  | .comp _ _ _ _ => true
  | .bop _ _ _ => true
  | .sl _ _ _ => true
  | .rev _ => true
  | .blt b _ => b.fresh
  | _ => false

/-- the fields of the refusals -/
def excF : String → List String
  | "NoSheet" => ["word", "number"] | "NoMix" => ["word", "number"] | "NoPlan" => ["word", "number"] | "NoStretch" => ["word", "number"] | "NoBill" => ["word", "number"]
  | "NoRoom" => ["work"] | "NoPrice" => ["work"] | "NoRule" => ["number"] | "NoSpeed" => ["speed"] | "NoText" => ["at"] | "NoLeast" => ["over"] | "NoMuch" => ["word"]
  | _ => []
/-- an exception as it lies -/
structure XV (K : PySem.W.Frag) (mg : Str → Option Value) (φ : List Addr) (χ : Ads) (H : Hp) (x : String) (fs : List D) (cls : Value) (dd : Option Addr) : Prop where
  cl : ∃ C, mg (Str.ofString x) = some (.ref C) ∧ cls = .ref C
  fl : fs = [] ∨ ∃ (a : Addr) (vs : List V), dd = some a ∧ ¬ χ a ∧ H a = some (.xd (((excF x).map Str.ofString).zip vs)) ∧ RVs K φ χ H fs vs ∧ vs.length = (excF x).length

/-- a value; a new list told as such: it is kept apart -/
inductive RVf (fr : Bool) (K : PySem.W.Frag) (H0 : Hp) (φ : List Addr) (χ : Ads) (H : Hp) : D → V → Prop
  | plain {d : D} {v : V} : RV K φ χ H d v → (fr = true → ∀ ds, d ≠ .lst ds) → RVf fr K H0 φ χ H d v
  | new {p : Addr} {ds : List D} {vs : List V} : fr = true → χ p → p ∉ φ → H0 p = none → H p = some (.lst vs) → RVs K φ χ H ds vs → RVf fr K H0 φ χ H (.lst ds) (.ref p)

section
variable {X : Cx} {W : WX} {l : List Nat} {τ : L2.St} {φ φ' φ1 : List Addr} {χ χ' χ1 : Ads} {H H' H1 H0 : Hp} {h h' : Hh} {α β : Type}
/-- what is wanted of an outcome -/
def Out (X : Cx) (W : WX) (l : List Nat) (τ : L2.St) (φ : List Addr) (χ : Ads) (H : Hp) (r : R α) (good : List Addr → Ads → Hp → α → Hh → Prop) : Prop := match r with
  | .ok a h' => ∀ φ' χ' H', Ext φ χ H φ' χ' H' → HR X.K X.mg φ' χ' H' l h' → good φ' χ' H' a h'
  | .ex x fs h' => ∀ φ' χ' H' cls dd, Ext φ χ H φ' χ' H' → HR X.K X.mg φ' χ' H' l h' → XV X.K X.mg φ' χ' H' x fs cls dd → W cls dd τ H'
  | .bad => False
theorem Out.bind {r : R α} {f : α → Hh → R β} {good : List Addr → Ads → Hp → β → Hh → Prop} (o : Out X W l τ φ χ H (r.bind f) good) :
    Out X W l τ φ χ H r fun φ' χ' H' a h' => Out X W l τ φ' χ' H' (f a h') good := by
  cases r with
  | bad => exact o
  | ex x fs h' => exact o
  | ok a h' =>
    intro φ' χ' H' x hr
    have o' : Out X W l τ φ χ H (f a h') good := o
    show Out X W l τ φ' χ' H' (f a h') good
    cases e : f a h' with
    | bad => rw [e] at o'; exact o'
    | ex y fs h2 =>
      rw [e] at o'
      exact fun φ2 χ2 H2 cls dd x2 hr2 xv => o' φ2 χ2 H2 cls dd (x.trans x2) hr2 xv
    | ok b h2 =>
      rw [e] at o'
      exact fun φ2 χ2 H2 x2 hr2 => o' φ2 χ2 H2 (x.trans x2) hr2
theorem Out.mono {r : R α} {good good' : List Addr → Ads → Hp → α → Hh → Prop} (o : Out X W l τ φ χ H r good)
    (k : ∀ φ' χ' H' a h', r = .ok a h' → Ext φ χ H φ' χ' H' → HR X.K X.mg φ' χ' H' l h' → good φ' χ' H' a h' → good' φ' χ' H' a h') : Out X W l τ φ χ H r good' := by
  cases r with
  | bad => exact o
  | ex x fs h' => exact o
  | ok a h' => exact fun φ' χ' H' x hr => k φ' χ' H' a h' rfl x hr (o φ' χ' H' x hr)
/-- from later on -/
theorem Out.later {r : R α} {good : List Addr → Ads → Hp → α → Hh → Prop} (x : Ext φ χ H φ1 χ1 H1) (o : Out X W l τ φ χ H r good) : Out X W l τ φ1 χ1 H1 r good := by
  cases r with
  | bad => exact o
  | ex y fs h2 => exact fun φ2 χ2 H2 cls dd x2 hr2 xv => o φ2 χ2 H2 cls dd (x.trans x2) hr2 xv
  | ok b h2 => exact fun φ2 χ2 H2 x2 hr2 => o φ2 χ2 H2 (x.trans x2) hr2

/-- the reading of an expression -/
def tM (X : Cx) (W : WX) (l : List Nat) (e : E) : TE := fun τ H Q => ∃ φ χ σ h, RS X.K φ χ H σ τ ∧ HR X.K X.mg φ χ H l h ∧
  Out X W l τ φ χ H (evE l e σ h) fun φ' χ' H' d _ => ∀ v, RVf e.fresh X.K H φ' χ' H' d v → Q v H'
def tMs (X : Cx) (W : WX) (l : List Nat) (es : EL) : TA := fun τ H Q => ∃ φ χ σ h, RS X.K φ χ H σ τ ∧ HR X.K X.mg φ χ H l h ∧
  Out X W l τ φ χ H (evL l es σ h) fun φ' χ' H' ds _ => ∀ vs, RVs X.K φ' χ' H' ds vs → Q vs H'
def tMt (X : Cx) (W : WX) (l : List Nat) (e : E) : TT := fun τ H Q => ∃ φ χ σ h, RS X.K φ χ H σ τ ∧ HR X.K X.mg φ χ H l h ∧
  Out X W l τ φ χ H (evE l e σ h) fun _ _ H' d _ => ∃ b, d = .bl b ∧ Q b H'

theorem peImp {e : Expr} {t t' : TE} (p : PE X e t) (k : ∀ τ H Q, t' τ H Q → t τ H Q) : PE X e t' := ⟨fun pins s σ H Q I q => p.run pins s σ H Q I (k σ H Q q)⟩
theorem ptImp {e : Expr} {t t' : TT} (p : PT X e t) (k : ∀ τ H Q, t' τ H Q → t τ H Q) : PT X e t' := ⟨fun pins s σ H Q I q => p.run pins s σ H Q I (k σ H Q q)⟩
theorem paImp {e : List Expr} {t t' : TA} (p : PA X e t) (k : ∀ τ H Q, t' τ H Q → t τ H Q) : PA X e t' := ⟨fun pos pins s σ H Q I q => p.run pos pins s σ H Q I (k σ H Q q)⟩

/-- one address less is ours -/
theorem Ext.drop {p : Addr} (x : Ext φ χ H φ' χ' H') (hn : H p = none) (hc : ¬ χ p) : Ext φ χ H φ' (fun a => χ' a ∧ a ≠ p) H' :=
  ⟨⟨x.pre, fun a q => ⟨x.sub a q, fun e => hc (e ▸ q)⟩, fun a q => x.new a q.1, x.keep, x.tups, x.frl⟩, x.kp, x.fr⟩
/-- what wants a plain value -/
theorem Out.plain {fr : Bool} {r : R D} {Q : V → Hp → Prop} (hr0 : HR X.K X.mg φ χ H l h) (o : Out X W l τ φ χ H r fun φ' χ' H' d _ => ∀ v, RV X.K φ' χ' H' d v → Q v H') :
    Out X W l τ φ χ H r fun φ' χ' H' d _ => ∀ v, RVf fr X.K H φ' χ' H' d v → Q v H' := by
  cases r with
  | bad => exact o
  | ex x fs h' => exact o
  | ok d h' =>
    intro φ' χ' H' x hr v rv
    cases rv with
    | plain rv _ => exact o φ' χ' H' x hr v rv
    | @new p ds vs _ c1 c2 c3 c4 c5 =>
      have nc : ¬ χ p := fun q => hr0.ch p q c3
      refine o φ' _ H' (x.drop c3 nc) (hr.less (fun a q => q.1) fun a ha => ⟨hr.sub a ha, fun e => c2 (e ▸ ha)⟩) (.ref p) (.lst (fun q => q.2 rfl) c4 (c5.less fun a q => q.1))
/-- a subexpression's reading, from the whole's outcome -/
theorem tM.of {e : E} {σ : Sg} {Q : VK} (rs : RS X.K φ χ H σ τ) (hr : HR X.K X.mg φ χ H l h) (o : Out X W l τ φ χ H (evE l e σ h) fun φ' χ' H' d h' => HR X.K X.mg φ' χ' H' l h' → ∀ v, RV X.K φ' χ' H' d v → Q v H') : tM X W l e τ H Q :=
  ⟨φ, χ, σ, h, rs, hr, (o.mono fun φ' χ' H' a h' _ x hr' g => g hr').plain hr⟩

/-- a new tuple -/
theorem Ext.newT {p : Addr} {vs : List V} (hn : H p = none) : Ext φ χ H φ χ (upd H p (.tup vs)) := by
  refine ⟨⟨⟨[], by simp⟩, fun _ q => q, fun _ q n => absurd q n, fun a o _ ho => ?_, fun a xs ho => ?_, fun a o xs ho => ?_⟩, fun a o _ ho => ?_, fun a q n => absurd q n⟩ <;> (rw [upd_ne (ne_of_none ho hn)]; exact ho)
theorem OV.heap {K : PySem.W.Frag} {mg : Str → Option Value} {o : Ob} {a : Addr} (c : OV K mg φ χ H o a) : ∃ u, H a = some u := by
  cases c with
  | lst e _ => exact ⟨_, e⟩
  | ins _ e _ _ => exact ⟨_, e⟩
theorem HR.heap (r : HR X.K X.mg φ χ H l h) {a : Addr} (ha : a ∈ φ) : ∃ u, H a = some u := by
  obtain ⟨n, hn, e⟩ := List.mem_iff_getElem.mp ha
  have hl : n < h.length := by have := r.len; omega
  exact (r.ob n a (h[n]'hl) (by rw [List.getElem?_eq_getElem hn, e]) (List.getElem?_eq_getElem hl)).heap
theorem HR.extW {χ' : Ads} (r : HR X.K X.mg φ χ H l h) (x : ExtW φ χ H φ χ' H') (e : ∀ a ∈ φ, H' a = H a) (c : ∀ a, χ' a → H' a ≠ none) : HR X.K X.mg φ χ' H' l h :=
  ⟨r.len, r.nd, fun a ha => x.sub a (r.sub a ha), fun n a o e1 e2 => (r.ob n a o e1 e2).extW x (e a (List.mem_of_getElem? e1)), r.lim, r.top, c⟩
theorem HR.ext {χ' : Ads} (r : HR X.K X.mg φ χ H l h) (x : Ext φ χ H φ χ' H') (e : ∀ a ∈ φ, H' a = H a) (c : ∀ a, χ' a → H' a ≠ none) : HR X.K X.mg φ χ' H' l h :=
  ⟨r.len, r.nd, fun a ha => x.sub a (r.sub a ha), fun n a o e1 e2 => (r.ob n a o e1 e2).ext x (e a (List.mem_of_getElem? e1)), r.lim, r.top, c⟩
theorem HR.newT {p : Addr} {vs : List V} (r : HR X.K X.mg φ χ H l h) (hn : H p = none) : HR X.K X.mg φ χ (upd H p (.tup vs)) l h :=
  r.ext (.newT hn) (fun a ha => upd_ne (by obtain ⟨u, e⟩ := r.heap ha; exact ne_of_none e hn)) fun a q => by
    by_cases e : a = p
    · rw [e, upd_same]; simp
    · rw [upd_ne e]; exact r.ch a q
/-- a new list, kept apart -/
theorem Ext.newL {p : Addr} {vs : List V} (hn : H p = none) : Ext φ χ H φ (fun a => χ a ∨ a = p) (upd H p (.lst vs)) := by
  refine ⟨⟨⟨[], by simp⟩, fun _ q => .inl q, fun a q n => q.elim (fun z => absurd z n) fun z => by rw [z]; exact hn, fun a o _ ho => ?_, fun a xs ho => ?_, fun a o xs ho => ?_⟩, fun a o _ ho => ?_, fun a q n => absurd q n⟩ <;> (rw [upd_ne (ne_of_none ho hn)]; exact ho)
theorem HR.newL {p : Addr} {vs : List V} (r : HR X.K X.mg φ χ H l h) (hn : H p = none) : HR X.K X.mg φ (fun a => χ a ∨ a = p) (upd H p (.lst vs)) l h :=
  r.ext (.newL hn) (fun a ha => upd_ne (by obtain ⟨u, e⟩ := r.heap ha; exact ne_of_none e hn)) fun a q => by
    by_cases e : a = p
    · rw [e, upd_same]; simp
    · rw [upd_ne e]; exact r.ch a (q.resolve_right e)
/-- the outcome is a new tuple -/
theorem Out.tup {ds : List D} {vs : List V} {p : Addr} {Q : VK} {fr : Bool} (hr : HR X.K X.mg φ χ H l h) (rv : RVs X.K φ χ H ds vs) (hn : H p = none)
    (o : Out X W l τ φ χ H (.ok (.tup ds) h) fun φ' χ' H' d _ => ∀ v, RVf fr X.K H0 φ' χ' H' d v → Q v H') : Q (.ref p) (upd H p (.tup vs)) :=
  o φ χ _ (.newT hn) (hr.newT hn) _ (.plain (.tup (.inl upd_same) (rv.ext (.newT hn))) fun _ ds e => by cases e)
/-- .. a new list -/
theorem Out.new {ds : List D} {vs : List V} {p : Addr} {Q : VK} {fr : Bool} (hr : HR X.K X.mg φ χ H l h) (rv : RVs X.K φ χ H ds vs) (hn : H p = none) (h0 : H0 p = none)
    (o : Out X W l τ φ χ H (.ok (.lst ds) h) fun φ' χ' H' d _ => ∀ v, RVf fr X.K H0 φ' χ' H' d v → Q v H') : Q (.ref p) (upd H p (.lst vs)) := by
  cases fr with
  | true => exact o φ _ _ (.newL hn) (hr.newL hn) _ (.new rfl (.inr rfl) (fun ha => by obtain ⟨u, e⟩ := hr.heap ha; rw [hn] at e; cases e) h0 upd_same (rv.ext (.newL hn)))
  | false =>
    have nc : ¬ χ p := fun q => hr.ch p q hn
    refine o φ χ _ ⟨⟨⟨[], by simp⟩, fun _ q => q, fun _ q n => absurd q n, (Ext.newL (φ := φ) (χ := χ) hn).keep, (Ext.newL (φ := φ) (χ := χ) hn).tups, (Ext.newL (φ := φ) (χ := χ) hn).frl⟩, (Ext.newL (φ := φ) (χ := χ) hn).kp, fun a q n => absurd q n⟩ ((hr.newL hn).less (fun a q => .inl q) hr.sub) _
      (.plain (.lst nc upd_same ((rv.ext (.newL hn)).less fun a q => .inl q)) (fun e => by cases e))
/-- .. any value that lies as it lay -/
theorem Out.same {d : D} {v : V} {Q : VK} {fr : Bool} (hr : HR X.K X.mg φ χ H l h) (rv : RV X.K φ χ H d v) (hf : fr = true → ∀ ds, d ≠ .lst ds)
    (o : Out X W l τ φ χ H (.ok d h) fun φ' χ' H' d _ => ∀ v, RVf fr X.K H0 φ' χ' H' d v → Q v H') : Q v H := o φ χ H .refl hr v (.plain rv hf)
theorem Out.same0 {d : D} {v : V} {Q : VK} (hr : HR X.K X.mg φ χ H l h) (rv : RV X.K φ χ H d v)
    (o : Out X W l τ φ χ H (.ok d h) fun φ' χ' H' d _ => ∀ v, RVf false X.K H0 φ' χ' H' d v → Q v H') : Q v H := Out.same (fr := false) hr rv (fun q => nomatch q) o
/-- fresh now is fresh ahead -/
theorem Ext.back {p : Addr} (x : Ext φ χ H φ' χ' H') (hr : HR X.K X.mg φ' χ' H' l h') (hr0 : HR X.K X.mg φ χ H l h) (hn : H' p = none) : H p = none := by
  cases e : H p with
  | none => rfl
  | some o =>
    by_cases q : χ p
    · exact absurd hn (hr.ch p (x.sub p q))
    · rw [x.keep p o q e] at hn; cases hn

/-! ### names and constants -/
theorem m_var {i : Nat} {x : Str} {pos : Pos} (hN : X.N[i]? = some x) (hv : Vis X.env.scope x) (hd : (x == ("__debug__" : Str)) = false) (hcd : (x == ("__classdict__" : Str)) = false) : PE X (.Name x pos) (tM X W l (.var i)) := by
  refine peImp (pe_var hN hv hd hcd) fun τ H Q ⟨φ, χ, σ, h, rs, hr, o⟩ => ?_
  unfold evE varV at o
  cases e : σ[i]? with
  | none => rw [e] at o; exact o.elim
  | some d =>
    cases d with
    | none => rw [e] at o; exact o.elim
    | some d =>
      rw [e] at o
      obtain ⟨v, e1, rv⟩ := rs.at_ i d e
      exact ⟨v, e1, Out.same0 (H0 := H) hr rv o⟩
theorem m_int {i : Int} {j : Nat} {pos : Pos} : PE X (.Constant (.int i) j pos) (tM X W l (.cst (.int i))) := peImp pe_int fun τ H Q ⟨φ, χ, σ, h, rs, hr, o⟩ => Out.same0 (W := W) (τ := τ) (H0 := H) hr (.int i) (by unfold evE at o; exact o)
theorem m_bl {i : Bool} {j : Nat} {pos : Pos} : PE X (.Constant (.bool i) j pos) (tM X W l (.cst (.bl i))) := peImp pe_bl fun τ H Q ⟨φ, χ, σ, h, rs, hr, o⟩ => Out.same0 (W := W) (τ := τ) (H0 := H) hr (.bl i) (by unfold evE at o; exact o)
theorem m_non {j : Nat} {pos : Pos} : PE X (.Constant .none j pos) (tM X W l (.cst .non)) := peImp pe_non fun τ H Q ⟨φ, χ, σ, h, rs, hr, o⟩ => Out.same0 (W := W) (τ := τ) (H0 := H) hr .non (by unfold evE at o; exact o)
theorem m_str {i : Str} {j : Nat} {pos : Pos} : PE X (.Constant (.str i) j pos) (tM X W l (.cst (.str i))) := peImp pe_str fun τ H Q ⟨φ, χ, σ, h, rs, hr, o⟩ => Out.same0 (W := W) (τ := τ) (H0 := H) hr (.str i) (by unfold evE at o; exact o)
/-- what a module's name holds -/
structure GlobOk (K : PySem.W.Frag) (mg : Str → Option Value) (x : String) (d : D) : Prop where
  ex : ∃ u v, mg (Str.ofString x) = some u ∧ RelV v u ∧ ∀ φ χ H, RV K φ χ H d v
  nl : ∀ ds, d ≠ .lst ds
theorem m_glob {x : String} {d : D} {pos : Pos} (g : GlobOk X.K X.mg x d) (hg : Gl X (Str.ofString x)) (hd : (Str.ofString x == ("__debug__" : Str)) = false) : PE X (.Name (Str.ofString x) pos) (tM X W l (.glob x d)) := by
  obtain ⟨u, v, hm, r, q⟩ := g.ex
  exact peImp (pe_glob hg hm r hd) fun τ H Q ⟨φ, χ, σ, h, rs, hr, o⟩ => Out.same0 (W := W) (τ := τ) (H0 := H) hr (q φ χ H) (by unfold evE at o; exact o)
end
end Mp

set_option maxRecDepth 100000
/-! Mp2c: operators and comparisons. -/
namespace Mp
open PySem PySem.Spec PyProof.Rows L2

section
variable {X : Cx} {W : WX} {l : List Nat} {τ : L2.St} {φ φ' φ1 : List Addr} {χ χ' χ1 : Ads} {H H' H1 H0 : Hp} {h h' : Hh} {α β : Type} {K : PySem.W.Frag} {mg : Str → Option Value}

theorem HR.getL (r : HR K mg φ χ H l h) {n : Nat} {a : Addr} {ds : List D} (e : φ[n]? = some a) (g : getL h n = some ds) : ∃ vs, H a = some (.lst vs) ∧ RVs K φ χ H ds vs := by
  unfold Mp.getL at g
  split at g
  · rename_i xs q
    cases g
    have o := r.ob n a _ e q
    cases o with
    | lst e1 e2 => exact ⟨_, e1, e2⟩
  · cases g
theorem RV.lstOf (r : HR K mg φ χ H l h) {d : D} {v : V} {ds : List D} (rv : RV K φ χ H d v) (g : lstOf h d = some ds) : ∃ a vs, v = .ref a ∧ H a = some (.lst vs) ∧ RVs K φ χ H ds vs := by
  cases rv with
  | lst n e t => cases g; exact ⟨_, _, rfl, e, t⟩
  | ref e =>
    obtain ⟨vs, q1, q2⟩ := r.getL e g
    exact ⟨_, vs, rfl, q1, q2⟩
  | _ => cases g
theorem RV.listOf (r : HR K mg φ χ H l h) {d : D} {v : V} {ds : List D} (rv : RV K φ χ H d v) (g : listOf h d = some ds) : ∃ a vs, v = .ref a ∧ SqL K H a vs ∧ RVs K φ χ H ds vs := by
  cases rv with
  | scr s => cases g; exact ⟨_, _, rfl, s.sq, RVs.ints _⟩
  | lst n e t => cases g; exact ⟨_, _, rfl, SqL.of e, t⟩
  | ref e =>
    obtain ⟨vs, q1, q2⟩ := r.getL e g
    exact ⟨_, vs, rfl, SqL.of q1, q2⟩
  | _ => cases g
theorem RV.seqOf (r : HR K mg φ χ H l h) {d : D} {v : V} {ds : List D} (rv : RV K φ χ H d v) (g : seqOf h d = some ds) : ∃ a vs, v = .ref a ∧ (SqL K H a vs ∨ SqT K H a vs) ∧ RVs K φ χ H ds vs := by
  cases rv with
  | tup t q => cases g; exact ⟨_, _, rfl, .inr t.sq, q⟩
  | scr s => cases g; exact ⟨_, _, rfl, .inl s.sq, RVs.ints _⟩
  | lst n e t => cases g; exact ⟨_, _, rfl, .inl (SqL.of e), t⟩
  | ref e =>
    obtain ⟨vs, q1, q2⟩ := r.getL e g
    exact ⟨_, vs, rfl, .inl (SqL.of q1), q2⟩
  | _ => cases g
/-- plain data as data -/
theorem flats_cons {d : D} {ds : List D} {xs : List PyData} (e : D.flats (d :: ds) = some xs) : ∃ y ys, xs = y :: ys ∧ d.flat = some y ∧ D.flats ds = some ys := by
  unfold D.flats at e
  split at e
  · cases e; exact ⟨_, _, rfl, by assumption, by assumption⟩
  · cases e
theorem pys_cons {d : D} {ds : List D} {xs : List PyData} (e : D.pys h (d :: ds) = some xs) : ∃ y ys, xs = y :: ys ∧ d.py h = some y ∧ D.pys h ds = some ys := by
  unfold D.pys at e
  split at e
  · cases e; exact ⟨_, _, rfl, by assumption, by assumption⟩
  · cases e
mutual
theorem RV.flat : ∀ {d : D} {v : V} {x : PyData}, RV K φ χ H d v → d.flat = some x → Dp K H v x
  | _, _, _, .non, e => by cases e; exact .non
  | _, _, _, .bl b, e => by cases e; exact .bl b
  | _, _, _, .int b, e => by cases e; exact .int b
  | _, _, _, .str b, e => by cases e; exact .str b
  | _, _, _, .tup (ds := ds) t r, e => by
    unfold D.flat at e
    obtain ⟨xs, e1, rfl⟩ := Option.map_eq_some_iff.mp e
    exact .tup t.sq (RVs.flat r e1)
  | _, _, _, .lst (ds := ds) n t r, e => by
    unfold D.flat at e
    obtain ⟨xs, e1, rfl⟩ := Option.map_eq_some_iff.mp e
    exact .lst (SqL.of t) (RVs.flat r e1)
  | _, _, _, .ref _, e => by cases e
  | _, _, _, .scr _, e => by cases e
theorem RVs.flat : ∀ {d : List D} {v : List V} {x : List PyData}, RVs K φ χ H d v → D.flats d = some x → DpAll K H v x
  | _, _, _, .nil, e => by cases e; exact .nil
  | _, _, _, .cons r t, e => by
    obtain ⟨y, ys, rfl, e1, e2⟩ := flats_cons e
    exact .cons (RV.flat r e1) (RVs.flat t e2)
end
mutual
theorem RV.py (hr : HR K mg φ χ H l h) : ∀ {d : D} {v : V} {x : PyData}, RV K φ χ H d v → d.py h = some x → Dp K H v x
  | _, _, _, .non, e => by cases e; exact .non
  | _, _, _, .bl b, e => by cases e; exact .bl b
  | _, _, _, .int b, e => by cases e; exact .int b
  | _, _, _, .str b, e => by cases e; exact .str b
  | _, _, _, .tup (ds := ds) t r, e => by
    unfold D.py at e
    obtain ⟨xs, e1, rfl⟩ := Option.map_eq_some_iff.mp e
    exact .tup t.sq (RVs.py hr r e1)
  | _, _, _, .lst (ds := ds) n t r, e => by
    unfold D.py at e
    obtain ⟨xs, e1, rfl⟩ := Option.map_eq_some_iff.mp e
    exact .lst (SqL.of t) (RVs.py hr r e1)
  | _, _, _, .ref (n := n) q, e => by
    unfold D.py at e
    obtain ⟨ds, e1, e2⟩ := Option.bind_eq_some_iff.mp e
    obtain ⟨xs, e3, rfl⟩ := Option.map_eq_some_iff.mp e2
    obtain ⟨vs, q1, q2⟩ := hr.getL q e1
    exact .lst (SqL.of q1) (q2.flat e3)
  | _, _, _, .scr _, e => by cases e
theorem RVs.py (hr : HR K mg φ χ H l h) : ∀ {d : List D} {v : List V} {x : List PyData}, RVs K φ χ H d v → D.pys h d = some x → DpAll K H v x
  | _, _, _, .nil, e => by cases e; exact .nil
  | _, _, _, .cons r t, e => by
    obtain ⟨y, ys, rfl, e1, e2⟩ := pys_cons e
    exact .cons (RV.py hr r e1) (RVs.py hr t e2)
end
theorem RVs.intsOf : ∀ {ds : List D} {vs : List V} {ns : List Int}, RVs K φ χ H ds vs → intsOf ds = some ns → vs = ns.map V.int
  | _, _, _, .nil, e => by cases e; rfl
  | _, _, _, .cons (d := d) r t, e => by
    cases r with
    | int i =>
      obtain ⟨ms, e1, rfl⟩ := Option.map_eq_some_iff.mp (show (Mp.intsOf _).map (i :: ·) = some _ from e)
      rw [RVs.intsOf t e1]; rfl
    | _ => cases e
theorem RVs.blsOf : ∀ {ds : List D} {vs : List V} {ns : List Bool}, RVs K φ χ H ds vs → blsOf ds = some ns → vs = ns.map V.bl
  | _, _, _, .nil, e => by cases e; rfl
  | _, _, _, .cons (d := d) r t, e => by
    cases r with
    | bl i =>
      obtain ⟨ms, e1, rfl⟩ := Option.map_eq_some_iff.mp (show (Mp.blsOf _).map (i :: ·) = some _ from e)
      rw [RVs.blsOf t e1]; rfl
    | _ => cases e

/-! ### operators -/
/-- two subexpressions, then what the operator asks -/
theorem m_two {a b : Expr} {ea eb : E} {whole : E} {e : Expr} {r : R2} {f : Hh → D → D → R D} (hp : PE X e (tOp r (tM X W l ea) (tM X W l eb)))
    (hev : ∀ σ h, evE l whole σ h = (evE l ea σ h).bind fun x h => (evE l eb σ h).bind fun y h => f h x y)
    (hk : ∀ (τ : L2.St) (φ : List Addr) (χ : Ads) (H H0 : Hp) (h : Hh) (d1 d2 : D) (v1 v2 : V) (Q : VK), HR X.K X.mg φ χ H l h → RV X.K φ χ H d1 v1 → RV X.K φ χ H d2 v2 → (∀ p, H p = none → H0 p = none) →
      Out X W l τ φ χ H (f h d1 d2) (fun φ' χ' H' d _ => ∀ v, RVf whole.fresh X.K H0 φ' χ' H' d v → Q v H') → r v1 v2 H Q) :
    PE X e (tM X W l whole) := by
  refine peImp hp fun τ H Q ⟨φ, χ, σ, h, rs, hr, o⟩ => ?_
  rw [hev] at o
  refine tM.of rs hr (o.bind.mono fun φ1 χ1 H1 d1 h1 _ x1 hr1 g1 _ v1 rv1 => ?_)
  refine tM.of (rs.ext x1) hr1 (g1.bind.mono fun φ2 χ2 H2 d2 h2 _ x2 hr2 g2 _ v2 rv2 => ?_)
  exact hk τ φ2 χ2 H2 H h2 d1 d2 v1 v2 Q hr2 (rv1.ext x2) rv2 (fun p hn => (x1.trans x2).back hr2 hr hn) g2
theorem m_bop {a b : Expr} {ea eb : E} {op : Operator} {o : Bop} {r : R2} {pos : Pos} (ho : OpR X (binaryOp op) r) (ha : PE X a (tM X W l ea)) (hb : PE X b (tM X W l eb))
    (hk : ∀ (τ : L2.St) (φ : List Addr) (χ : Ads) (H H0 : Hp) (h : Hh) (d1 d2 : D) (v1 v2 : V) (Q : VK), HR X.K X.mg φ χ H l h → RV X.K φ χ H d1 v1 → RV X.K φ χ H d2 v2 → (∀ p, H p = none → H0 p = none) →
      Out X W l τ φ χ H (bop o h d1 d2) (fun φ' χ' H' d _ => ∀ v, RVf true X.K H0 φ' χ' H' d v → Q v H') → r v1 v2 H Q) :
    PE X (.BinOp a op b pos) (tM X W l (.bop o ea eb)) :=
  m_two (a := a) (b := b) (pe_op ho ha hb) (fun σ h => by conv => lhs; unfold evE) hk
theorem int_nf {i : Int} : true = true → ∀ ds, D.int i ≠ .lst ds := fun _ _ e => nomatch e
theorem bl_nf {i : Bool} : true = true → ∀ ds, D.bl i ≠ .lst ds := fun _ _ e => nomatch e

def rAdd4 (K : PySem.W.Frag) : R2 := fun x y H Q => (((∃ i j, x = .int i ∧ y = .int j ∧ Q (.int (i + j)) H) ∨ (∃ i j, x = .str i ∧ y = .str j ∧ i.length + j.length ≤ sizeLine ∧ Q (.str (i ++ j)) H)) ∨ (rCatA K x y H Q ∨ rCat x y H Q))
theorem o_add : OpR X (binaryOp .Add) (rAdd4 X.K) := OpR.or (OpR.or op_add op_add_str) (OpR.or op_catA op_cat)
theorem m_add {a b : Expr} {ea eb : E} {pos : Pos} (ha : PE X a (tM X W l ea)) (hb : PE X b (tM X W l eb)) : PE X (.BinOp a .Add b pos) (tM X W l (.bop .add ea eb)) := by
  refine m_bop o_add ha hb fun τ φ χ H H0 h d1 d2 v1 v2 Q hr r1 r2 fr o => ?_
  unfold bop at o
  simp only at o
  split at o
  · cases r1; cases r2
    exact .inl (.inl ⟨_, _, rfl, rfl, Out.same hr (.int _) int_nf o⟩)
  · cases r1; cases r2
    split at o
    · exact .inl (.inr ⟨_, _, rfl, rfl, by assumption, Out.same hr (.str _) (fun _ _ e => nomatch e) o⟩)
    · exact o.elim
  · split at o
    · rename_i hl
      cases r1 with
      | @tup a vs _ t1 s1 =>
        cases r2 with
        | @tup b ws _ t2 s2 =>
          have l1 := s1.length
          have l2 := s2.length
          refine .inr (.inl ⟨a, b, vs, ws, rfl, rfl, t1.sq, t2.sq, by omega, fun e => ?_, fun e1 e2 => ?_, fun e1 e2 p hp => ?_⟩)
          · subst e
            cases s1
            exact Out.same hr (.tup t2 s2) (fun _ _ e => nomatch e) o
          · subst e2
            cases s2
            exact Out.same hr (.tup t1 (by rw [List.append_nil]; exact s1)) (fun _ _ e => nomatch e) o
          · exact Out.tup hr (s1.append s2) hp o
    · exact o.elim
  · split at o
    · rename_i xs ys e1 e2
      split at o
      · rename_i hl
        obtain ⟨a, vs, rfl, q1, s1⟩ := r1.lstOf hr e1
        obtain ⟨b, ws, rfl, q2, s2⟩ := r2.lstOf hr e2
        have l1 := s1.length
        have l2 := s2.length
        exact .inr (.inr ⟨a, b, vs, ws, rfl, rfl, q1, q2, by omega, fun p hp => Out.new hr (s1.append s2) hp (fr p hp) o⟩)
      · exact o.elim
    · exact o.elim
theorem m_sub {a b : Expr} {ea eb : E} {pos : Pos} (ha : PE X a (tM X W l ea)) (hb : PE X b (tM X W l eb)) : PE X (.BinOp a .Sub b pos) (tM X W l (.bop .sub ea eb)) := by
  refine m_bop op_sub ha hb fun τ φ χ H H0 h d1 d2 v1 v2 Q hr r1 r2 fr o => ?_
  unfold bop at o
  simp only at o
  split at o
  · cases r1; cases r2
    exact ⟨_, _, rfl, rfl, Out.same hr (.int _) int_nf o⟩
  · exact o.elim
theorem small_lt {i : Int} (h : small i = true) : i.natAbs < 2 ^ 9000 := by
  unfold small at h
  exact of_decide_eq_true h
def rMul2 : R2 := fun x y H Q => rI CMulW (fun i j => .int (i * j)) x y H Q ∨ rRep x y H Q
theorem o_mul : OpR X (binaryOp .Mult) rMul2 := OpR.or op_mulW op_rep
theorem rep_rvs {ds : List D} {vs : List V} (r : RVs K φ χ H ds vs) : ∀ k : Nat, RVs K φ χ H (List.replicate k ds).flatten (List.replicate k vs).flatten
  | 0 => .nil
  | k + 1 => by
    rw [List.replicate_succ, List.replicate_succ, List.flatten_cons, List.flatten_cons]
    exact r.append (rep_rvs r k)
theorem m_mul {a b : Expr} {ea eb : E} {pos : Pos} (ha : PE X a (tM X W l ea)) (hb : PE X b (tM X W l eb)) : PE X (.BinOp a .Mult b pos) (tM X W l (.bop .mul ea eb)) := by
  refine m_bop o_mul ha hb fun τ φ χ H H0 h d1 d2 v1 v2 Q hr r1 r2 fr o => ?_
  unfold bop at o
  simp only at o
  split at o
  · cases r1; cases r2
    split at o
    · rename_i hs
      rw [Bool.and_eq_true] at hs
      exact .inl ⟨_, _, rfl, rfl, wide_mul (small_lt hs.1) (small_lt hs.2) (by decide) (by decide) (by decide), Out.same hr (.int _) int_nf o⟩
    · exact o.elim
  · cases r2
    cases r1 with
    | @lst a vs _ n q s =>
      split at o
      · rename_i hk
        exact .inr ⟨a, _, vs, rfl, rfl, q, hk.1, hk.2.1, by rw [← s.length]; exact hk.2.2, fun p hp => Out.new hr (rep_rvs s _) hp (fr p hp) o⟩
      · exact o.elim
  · exact o.elim
theorem m_mod {a b : Expr} {ea eb : E} {pos : Pos} (ha : PE X a (tM X W l ea)) (hb : PE X b (tM X W l eb)) : PE X (.BinOp a .Mod b pos) (tM X W l (.bop .mod ea eb)) := by
  refine m_bop op_modN ha hb fun τ φ χ H H0 h d1 d2 v1 v2 Q hr r1 r2 fr o => ?_
  unfold bop at o
  simp only at o
  split at o
  · cases r1; cases r2
    split at o
    · exact o.elim
    · exact ⟨_, _, rfl, rfl, by assumption, Out.same hr (.int _) int_nf o⟩
  · exact o.elim
def CDivX (_ j : Int) : Prop := j ≠ 0 ∧ j.natAbs < 2 ^ 9000
theorem op_fdivX : OpR X (binaryOp .FloorDiv) (rI CDivX fun i j => .int (i.fdiv j)) := opI fun i j _ _ _ _ _ hc q =>
  floordiv_int hc.1 q (.inl (PyProof.noPylong_of_log2 (PySem.Flt.log2_lt_of (by decide) hc.2)))
theorem m_fdiv {a b : Expr} {ea eb : E} {pos : Pos} (ha : PE X a (tM X W l ea)) (hb : PE X b (tM X W l eb)) : PE X (.BinOp a .FloorDiv b pos) (tM X W l (.bop .fdiv ea eb)) := by
  refine m_bop op_fdivX ha hb fun τ φ χ H H0 h d1 d2 v1 v2 Q hr r1 r2 fr o => ?_
  unfold bop at o
  simp only at o
  split at o
  · cases r1; cases r2
    split at o
    · exact o.elim
    · rename_i hs
      rw [not_or] at hs
      exact ⟨_, _, rfl, rfl, ⟨hs.1, small_lt (by simpa using hs.2)⟩, Out.same hr (.int _) int_nf o⟩
  · exact o.elim
theorem m_pow {a b : Expr} {ea eb : E} {pos : Pos} (ha : PE X a (tM X W l ea)) (hb : PE X b (tM X W l eb)) : PE X (.BinOp a .Pow b pos) (tM X W l (.bop .pow ea eb)) := by
  refine m_bop op_pow ha hb fun τ φ χ H H0 h d1 d2 v1 v2 Q hr r1 r2 fr o => ?_
  unfold bop at o
  simp only at o
  split at o
  · cases r1; cases r2
    split at o
    · exact ⟨_, _, rfl, rfl, by assumption, Out.same hr (.int _) int_nf o⟩
    · exact o.elim
  · exact o.elim
/-- one subexpression -/
theorem m_one {ea : E} {whole : E} {e : Expr} {t : (V → Hp → VK → Prop)} {f : Hh → D → R D} (hp : PE X e (fun σ H Q => tM X W l ea σ H fun x H1 => t x H1 Q))
    (hev : ∀ σ h, evE l whole σ h = (evE l ea σ h).bind fun x h => f h x)
    (hk : ∀ (τ : L2.St) (φ : List Addr) (χ : Ads) (H H0 : Hp) (h : Hh) (d1 : D) (v1 : V) (Q : VK), HR X.K X.mg φ χ H l h → RV X.K φ χ H d1 v1 → (∀ p, H p = none → H0 p = none) →
      Out X W l τ φ χ H (f h d1) (fun φ' χ' H' d _ => ∀ v, RVf whole.fresh X.K H0 φ' χ' H' d v → Q v H') → t v1 H Q) : PE X e (tM X W l whole) := by
  refine peImp hp fun τ H Q ⟨φ, χ, σ, h, rs, hr, o⟩ => ?_
  rw [hev] at o
  refine tM.of rs hr (o.bind.mono fun φ1 χ1 H1 d1 h1 _ x1 hr1 g1 _ v1 rv1 => ?_)
  exact hk τ φ1 χ1 H1 H h1 d1 v1 Q hr1 rv1 (fun p hn => x1.back hr1 hr hn) g1
theorem m_neg {a : Expr} {ea : E} {pos : Pos} (ha : PE X a (tM X W l ea)) : PE X (.UnaryOp .USub a pos) (tM X W l (.neg ea)) := by
  refine m_one (f := negV) (pe_un un_neg ha) (fun σ h => by conv => lhs; unfold evE) fun τ φ χ H H0 h d1 v1 Q hr r1 fr o => ?_
  unfold negV at o
  split at o
  · cases r1
    exact ⟨_, rfl, Out.same0 hr (.int _) o⟩
  · exact o.elim

/-! ### comparisons -/
theorem m_cmp {a b : Expr} {ea eb : E} {op : CmpOp} {o : Cop} {r : R2} {pos : Pos} (ho : OpR X (compareOp op) r) (hm : behindInMarks op b = false) (ha : PE X a (tM X W l ea)) (hb : PE X b (tM X W l eb))
    (hk : ∀ (τ : L2.St) (φ : List Addr) (χ : Ads) (H H0 : Hp) (h : Hh) (d1 d2 : D) (v1 v2 : V) (Q : VK), HR X.K X.mg φ χ H l h → RV X.K φ χ H d1 v1 → RV X.K φ χ H d2 v2 →
      Out X W l τ φ χ H (cop o h d1 d2) (fun φ' χ' H' d _ => ∀ v, RVf false X.K H0 φ' χ' H' d v → Q v H') → r v1 v2 H Q) :
    PE X (.Compare a [op] [b] pos) (tM X W l (.cmp o ea eb)) :=
  m_two (a := a) (b := b) (pe_cmpR ho ha hb hm) (fun σ h => by conv => lhs; unfold evE) fun τ φ χ H H0 h d1 d2 v1 v2 Q hr r1 r2 _ o => hk τ φ χ H H0 h d1 d2 v1 v2 Q hr r1 r2 o
/-- the reading of a comparison's rule is met -/
def CopOk (X : Cx) (W : WX) (l : List Nat) (o : Cop) (r : R2) : Prop := ∀ (τ : L2.St) (φ : List Addr) (χ : Ads) (H H0 : Hp) (h : Hh) (d1 d2 : D) (v1 v2 : V) (Q : VK), HR X.K X.mg φ χ H l h → RV X.K φ χ H d1 v1 → RV X.K φ χ H d2 v2 →
      Out X W l τ φ χ H (cop o h d1 d2) (fun φ' χ' H' d _ => ∀ v, RVf false X.K H0 φ' χ' H' d v → Q v H') → r v1 v2 H Q
theorem and_true {a b : Bool} (h : (a && b) = true) : a = true ∧ b = true := by simpa using h
theorem ok_eq : CopOk X W l .eq (rEqD X.K) := fun τ φ χ H H0 h d1 d2 v1 v2 Q hr r1 r2 o => by
  unfold cop at o
  simp only at o
  split at o
  · rename_i x y e1 e2
    split at o
    · rename_i hs
      have hs := and_true hs
      exact ⟨x, y, r1.py hr e1, r2.py hr e2, hs.1, hs.2, Out.same0 hr (.bl _) o⟩
    · exact o.elim
  · exact o.elim
theorem ok_ne : CopOk X W l .ne (rNeD X.K) := fun τ φ χ H H0 h d1 d2 v1 v2 Q hr r1 r2 o => by
  unfold cop at o
  simp only at o
  split at o
  · rename_i x y e1 e2
    split at o
    · rename_i hs
      have hs := and_true hs
      exact ⟨x, y, r1.py hr e1, r2.py hr e2, hs.1, hs.2, Out.same0 hr (.bl _) o⟩
    · exact o.elim
  · exact o.elim
theorem lexLt_eq : ∀ ns ms : List Int, HT.lexLt ns ms = lexLt ns ms
  | [], [] => rfl
  | [], _ :: _ => rfl
  | _ :: _, [] => rfl
  | x :: xs, y :: ys => by
    rw [HT.lexLt_cons, lexLt_eq xs ys]; rfl
theorem ok_lt : CopOk X W l .lt (fun x y H Q => (∃ i j, x = .int i ∧ y = .int j ∧ Q (.bl (decide (i < j))) H) ∨ rLtT X.K x y H Q) := fun τ φ χ H H0 h d1 d2 v1 v2 Q hr r1 r2 o => by
  unfold cop at o
  simp only at o
  split at o
  · cases r1; cases r2
    exact .inl ⟨_, _, rfl, rfl, Out.same0 hr (.bl _) o⟩
  · split at o
    · rename_i ns ms e1 e2
      cases r1 with
      | @tup a vs _ t1 s1 =>
        cases r2 with
        | @tup b ws _ t2 s2 =>
          have q1 := s1.intsOf e1
          have q2 := s2.intsOf e2
          subst q1; subst q2
          exact .inr ⟨a, b, ns, ms, rfl, rfl, t1.sq, t2.sq, by rw [lexLt_eq]; exact Out.same0 hr (.bl _) o⟩
    · exact o.elim
  · exact o.elim
theorem ok_le : CopOk X W l .le (rI0 fun i j => .bl (decide (i ≤ j))) := fun τ φ χ H H0 h d1 d2 v1 v2 Q hr r1 r2 o => by
  unfold cop at o
  simp only at o
  split at o
  · cases r1; cases r2
    exact ⟨_, _, rfl, rfl, Out.same0 hr (.bl _) o⟩
  · exact o.elim
theorem ok_ge : CopOk X W l .ge (rI0 fun i j => .bl (decide (j ≤ i))) := fun τ φ χ H H0 h d1 d2 v1 v2 Q hr r1 r2 o => by
  unfold cop at o
  simp only at o
  split at o
  · cases r1; cases r2
    exact ⟨_, _, rfl, rfl, Out.same0 hr (.bl _) o⟩
  · exact o.elim
end
end Mp

set_option maxRecDepth 100000
/-! Mp2d: truths, membership, displays, places. -/
namespace Mp
open PySem PySem.Spec PyProof.Rows L2

section
variable {X : Cx} {W : WX} {l : List Nat} {τ : L2.St} {φ φ' φ1 : List Addr} {χ χ' χ1 : Ads} {H H' H1 H0 : Hp} {h h' : Hh} {α β : Type} {K : PySem.W.Frag} {mg : Str → Option Value}

/-! ### in -/
def rInT (K : PySem.W.Frag) (neg : Bool) : R2 := fun x y H Q => ∃ d ds, Dp K H x d ∧ Dp K H y (.tuple ds) ∧ SeqAt.shaped d = true ∧ SeqAt.shaped (.list ds) = true ∧ Q (.bl (if neg then !ds.any fun z => PyData.eqv z d else ds.any fun z => PyData.eqv z d)) H
theorem shaped_lt {ds : List PyData} (h : SeqAt.shaped (.list ds) = true) : SeqAt.shaped (.tuple ds) = true := by
  simpa [SeqAt.shaped, PyData.canLay0, PyData.depth] using h
theorem op_inT (hu : X.A.units + 65 < cLine) : OpR X (compareOp .In) (rInT X.K false) := by
  intro pins s σ H x y v u Q I rx ry hh
  obtain ⟨d, ds, hd, he, sd, se, q⟩ := hh
  obtain ⟨as, k1⟩ := Dp.reads I d x v hd rx
  obtain ⟨bs, k2⟩ := Dp.reads I (.tuple ds) y u he ry
  exact SeqAt.in_tuple_reads k2 k1 (SeqAt.canLay_of_shaped se) (SeqAt.canLay_of_shaped sd) (room_in_shaped sd hu) ⟨.bl _, H, I, rfl, q⟩
theorem op_notInT (hu : X.A.units + 65 < cLine) : OpR X (compareOp .NotIn) (rInT X.K true) := by
  intro pins s σ H x y v u Q I rx ry hh
  obtain ⟨d, ds, hd, he, sd, se, q⟩ := hh
  obtain ⟨as, k1⟩ := Dp.reads I d x v hd rx
  obtain ⟨bs, k2⟩ := Dp.reads I (.tuple ds) y u he ry
  exact SeqAt.notIn_tuple_reads k2 k1 (SeqAt.canLay_of_shaped se) (SeqAt.canLay_of_shaped sd) (room_in_shaped sd hu) ⟨.bl _, H, I, rfl, q⟩
/-- the items of a sequence as data: of a list or of a tuple -/
theorem RV.seqPy (hr : HR K mg φ χ H l h) {d : D} {v : V} {ys : List PyData} (rv : RV K φ χ H d v) (e : (Mp.seqOf h d).bind (D.pys h) = some ys) : Dp K H v (.list ys) ∨ Dp K H v (.tuple ys) := by
  obtain ⟨ds, e1, e2⟩ := Option.bind_eq_some_iff.mp e
  obtain ⟨a, vs, rfl, q, s⟩ := rv.seqOf hr e1
  rcases q with q | q
  · exact .inl (.lst q (s.py hr e2))
  · exact .inr (.tup q (s.py hr e2))
theorem ok_in : CopOk X W l .inn (fun x y H Q => rInD X.K x y H Q ∨ rInT X.K false x y H Q) := fun τ φ χ H H0 h d1 d2 v1 v2 Q hr r1 r2 o => by
  unfold cop at o
  simp only at o
  split at o
  · rename_i x ys e1 e2
    split at o
    · rename_i hs
      have hs := and_true hs
      have q : Q (.bl (ys.any fun z => PyData.eqv z x)) H := Out.same0 hr (.bl _) o
      rcases r2.seqPy hr e2 with z | z
      · exact .inl ⟨x, ys, r1.py hr e1, z, hs.1, hs.2, q⟩
      · exact .inr ⟨x, ys, r1.py hr e1, z, hs.1, hs.2, q⟩
    · exact o.elim
  · exact o.elim
theorem ok_nin : CopOk X W l .nin (fun x y H Q => rNotInD X.K x y H Q ∨ rInT X.K true x y H Q) := fun τ φ χ H H0 h d1 d2 v1 v2 Q hr r1 r2 o => by
  unfold cop at o
  simp only at o
  split at o
  · rename_i x ys e1 e2
    split at o
    · rename_i hs
      have hs := and_true hs
      have q : Q (.bl (!ys.any fun z => PyData.eqv z x)) H := Out.same0 hr (.bl _) o
      rcases r2.seqPy hr e2 with z | z
      · exact .inl ⟨x, ys, r1.py hr e1, z, hs.1, hs.2, q⟩
      · exact .inr ⟨x, ys, r1.py hr e1, z, hs.1, hs.2, q⟩
    · exact o.elim
  · exact o.elim

/-! ### the order of tuples of whole numbers, turned about -/
theorem lexAt_lt (ns ms : List Int) : ∀ (k i : Nat), k = min ns.length ms.length - i → i ≤ min ns.length ms.length →
    Ob.lexAt (fun j => decide (ns.getD j 0 = ms.getD j 0)) (fun j => decide (ms.getD j 0 < ns.getD j 0)) (decide (ms.length < ns.length)) i k = lexLt (ms.drop i) (ns.drop i) := by
  intro k
  induction k with
  | zero =>
    intro i hk hi
    rw [Ob.lexAt_zero]
    rcases Nat.lt_trichotomy ms.length ns.length with q | q | q
    · have e1 : ms.drop i = [] := List.drop_eq_nil_of_le (by omega)
      rw [e1, decide_eq_true q]
      cases e : ns.drop i with
      | nil => have := congrArg List.length e; simp at this; omega
      | cons a b => rfl
    · have e1 : ms.drop i = [] := List.drop_eq_nil_of_le (by omega)
      have e2 : ns.drop i = [] := List.drop_eq_nil_of_le (by omega)
      rw [e1, e2, decide_eq_false (by omega)]; rfl
    · have e2 : ns.drop i = [] := List.drop_eq_nil_of_le (by omega)
      rw [e2, decide_eq_false (by omega)]
      cases ms.drop i <;> rfl
  | succ k ih =>
    intro i hk hi
    rw [Ob.lexAt_succ]
    have h1 : i < ns.length := by omega
    have h2 : i < ms.length := by omega
    rw [List.drop_eq_getElem_cons h1, List.drop_eq_getElem_cons h2]
    have g1 : ns.getD i 0 = ns[i] := by simp [h1]
    have g2 : ms.getD i 0 = ms[i] := by simp [h2]
    rw [g1, g2, ih (i + 1) (by omega) (by omega)]
    show _ = if ms[i] = ns[i] then _ else _
    by_cases q : ns[i] = ms[i]
    · rw [decide_eq_true q, if_pos rfl, if_pos q.symm]
    · rw [decide_eq_false q, if_neg (by decide), if_neg (fun z => q z.symm)]
def rGtT (K : PySem.W.Frag) : R2 := fun x y H Q => ∃ (a b : Addr) (ns ms : List Int), x = .ref a ∧ y = .ref b ∧ SqT K H a (ns.map V.int) ∧ SqT K H b (ms.map V.int) ∧ Q (.bl (lexLt ms ns)) H
theorem op_gtT (hu : X.A.units < cLine) : OpR X (compareOp .Gt) (rGtT X.K) := by
  intro pins s σ H x y v u Q I rx ry hh
  obtain ⟨a, b, ns, ms, rfl, rfl, ha, hb, q⟩ := hh
  cases rx
  cases ry
  obtain ⟨its, k1, p1, _⟩ := I.tuple ha
  obtain ⟨its2, k2, p2, _⟩ := I.tuple hb
  have i1 := Vals.ints k1
  have i2 := Vals.ints k2
  have z1 : its.toArray.size = ns.length := by simpa using i1.length
  have z2 : its2.toArray.size = ms.length := by simpa using i2.length
  have w1 : ∀ j (g : j < its.toArray.size), ∃ t, its.toArray[j] = .int (ns.getD j 0) t := fun j g => IntsAre.int_at i1 _ _ (by simp at g; simp [g])
  have w2 : ∀ j (g : j < its2.toArray.size), ∃ t, its2.toArray[j] = .int (ms.getD j 0) t := fun j g => IntsAre.int_at i2 _ _ (by simp at g; simp [g])
  have big := Ob.RcOp.tuples_gt (A := X.A) (s := s) (e := fun j => decide (ns.getD j 0 = ms.getD j 0)) (r := fun j => decide (ms.getD j 0 < ns.getD j 0)) p1 p2 hu (fun j g1 g2 => by
    obtain ⟨t, et⟩ := w1 j g1
    obtain ⟨t', et'⟩ := w2 j g2
    rw [et, et']
    have zz : (ns.getD j 0 == ms.getD j 0) = decide (ns.getD j 0 = ms.getD j 0) := by
      by_cases c : ns.getD j 0 = ms.getD j 0
      · rw [decide_eq_true c]; exact beq_iff_eq.mpr c
      · rw [decide_eq_false c]; exact beq_eq_false_iff_ne.mpr c
    rw [← zz]
    exact SeqAt.EqAt.int_int _ _ _ _) (fun j g1 g2 _ => by
    obtain ⟨t, et⟩ := w1 j g1
    obtain ⟨t', et'⟩ := w2 j g2
    rw [et, et']
    exact Ob.RcOp.gt_int _ _ _ _)
  refine big _ _ _ _ ?_
  refine ⟨.bl _, H, I, rfl, ?_⟩
  have zq := lexAt_lt ns ms _ 0 rfl (Nat.zero_le _)
  rw [Nat.sub_zero] at zq
  rw [z1, z2, show decide (ns.length > ms.length) = decide (ms.length < ns.length) from rfl, zq]
  exact q
theorem ok_gt : CopOk X W l .gt (fun x y H Q => (∃ i j, x = .int i ∧ y = .int j ∧ Q (.bl (decide (j < i))) H) ∨ rGtT X.K x y H Q) := fun τ φ χ H H0 h d1 d2 v1 v2 Q hr r1 r2 o => by
  unfold cop at o
  simp only at o
  split at o
  · cases r1; cases r2
    exact .inl ⟨_, _, rfl, rfl, Out.same0 hr (.bl _) o⟩
  · split at o
    · rename_i ns ms e1 e2
      cases r1 with
      | @tup a vs _ t1 s1 =>
        cases r2 with
        | @tup b ws _ t2 s2 =>
          have q1 := s1.intsOf e1
          have q2 := s2.intsOf e2
          subst q1; subst q2
          exact .inr ⟨a, b, ns, ms, rfl, rfl, t1.sq, t2.sq, Out.same0 hr (.bl _) o⟩
    · exact o.elim
  · exact o.elim
/-- the rule of each comparison -/
def rCop (K : PySem.W.Frag) : Cop → R2
  | .eq => rEqD K
  | .ne => rNeD K
  | .lt => fun x y H Q => (∃ i j, x = .int i ∧ y = .int j ∧ Q (.bl (decide (i < j))) H) ∨ rLtT K x y H Q
  | .le => rI0 fun i j => .bl (decide (i ≤ j))
  | .gt => fun x y H Q => (∃ i j, x = .int i ∧ y = .int j ∧ Q (.bl (decide (j < i))) H) ∨ rGtT K x y H Q
  | .ge => rI0 fun i j => .bl (decide (j ≤ i))
  | .inn => fun x y H Q => rInD K x y H Q ∨ rInT K false x y H Q
  | .nin => fun x y H Q => rNotInD K x y H Q ∨ rInT K true x y H Q
def opC : Cop → CmpOp
  | .eq => .Eq | .ne => .NotEq | .lt => .Lt | .le => .LtE | .gt => .Gt | .ge => .GtE | .inn => .In | .nin => .NotIn
theorem cop_op (hu : X.A.units + 65 < cLine) : ∀ o : Cop, OpR X (compareOp (opC o)) (rCop X.K o)
  | .eq => op_eqD (by omega)
  | .ne => op_neD (by omega)
  | .lt => OpR.or op_lt (op_ltT (by omega))
  | .le => op_le
  | .gt => OpR.or op_gt (op_gtT (by omega))
  | .ge => op_ge
  | .inn => OpR.or (op_inD hu) (op_inT hu)
  | .nin => OpR.or (op_notInD hu) (op_notInT hu)
theorem cop_ok : ∀ o : Cop, CopOk X W l o (rCop X.K o)
  | .eq => ok_eq | .ne => ok_ne | .lt => ok_lt | .le => ok_le | .gt => ok_gt | .ge => ok_ge | .inn => ok_in | .nin => ok_nin
theorem m_cmpo {a b : Expr} {ea eb : E} {o : Cop} {pos : Pos} (hu : X.A.units + 65 < cLine) (hm : behindInMarks (opC o) b = false) (ha : PE X a (tM X W l ea)) (hb : PE X b (tM X W l eb)) : PE X (.Compare a [opC o] [b] pos) (tM X W l (.cmp o ea eb)) :=
  m_cmp (cop_op hu o) hm ha hb (cop_ok o)

/-! ### truths -/
/-- a truth by its value, from the value's reading -/
theorem pt_of {e : Expr} {ee : E} (hp : PE X e (tM X W l ee)) (he : ∀ whole, isTrue e X.env whole = (do let v ← whole; standAt e.pos; holding [v] (truthy v))) : PT X e (tMt X W l ee) := by
  refine ptImp (pt_val hp he) fun τ H Q ⟨φ, χ, σ, h, rs, hr, o⟩ => ?_
  refine ⟨φ, χ, σ, h, rs, hr, o.mono fun φ' χ' H' d h' _ x hr' g v rv => ?_⟩
  obtain ⟨b, rfl, q⟩ := g
  cases rv with
  | plain rv _ => cases rv; exact ⟨b, rfl, q⟩
/-- a wish with a truth -/
theorem boolV_out {r : R D} {f : Bool → Hh → R β} {good : List Addr → Ads → Hp → β → Hh → Prop} (o : Out X W l τ φ χ H (r.bind (boolV f)) good) :
    Out X W l τ φ χ H r fun φ' χ' H' d h' => ∃ b, d = .bl b ∧ Out X W l τ φ' χ' H' (f b h') good :=
  o.bind.mono fun φ' χ' H' d h' _ x hr g => by
    unfold boolV at g
    split at g
    · exact ⟨_, rfl, g⟩
    · exact g.elim
/-- a truth's reading, from the whole's outcome -/
theorem tM.ofB {e : E} {σ : Sg} {Q : VK} (rs : RS X.K φ χ H σ τ) (hr : HR X.K X.mg φ χ H l h) (o : Out X W l τ φ χ H (evE l e σ h) fun φ' χ' H' d h' => ∃ b, d = .bl b ∧ (HR X.K X.mg φ' χ' H' l h' → Q (.bl b) H')) : tM X W l e τ H Q :=
  ⟨φ, χ, σ, h, rs, hr, (o.mono fun φ' χ' H' a h' _ x hr' g v rv => by
    obtain ⟨b, rfl, q⟩ := g
    cases rv
    exact q hr').plain hr⟩
theorem tMt.of {e : E} {σ : Sg} {Q : Bool → Hp → Prop} (rs : RS X.K φ χ H σ τ) (hr : HR X.K X.mg φ χ H l h) (o : Out X W l τ φ χ H (evE l e σ h) fun φ' χ' H' d h' => ∃ b, d = .bl b ∧ (HR X.K X.mg φ' χ' H' l h' → Q b H')) : tMt X W l e τ H Q :=
  ⟨φ, χ, σ, h, rs, hr, o.mono fun φ' χ' H' a h' _ x hr' g => by
    obtain ⟨b, rfl, q⟩ := g
    exact ⟨b, rfl, q hr'⟩⟩
/-- the last part's reading -/
theorem tM.last {e : E} {σ : Sg} {Q : VK} {fr : Bool} (rs : RS X.K φ χ H σ τ) (hr : HR X.K X.mg φ χ H l h) (fr0 : ∀ p, H p = none → H0 p = none) (hf : fr = false)
    (o : Out X W l τ φ χ H (evE l e σ h) fun φ' χ' H' d h' => ∀ v, RVf fr X.K H0 φ' χ' H' d v → Q v H') : tM X W l e τ H Q :=
  ⟨φ, χ, σ, h, rs, hr, (o.mono fun φ' χ' H' a h' _ x hr' g v rv => g v (.plain rv (fun q => by rw [hf] at q; cases q))).plain hr⟩
theorem m_not {a : Expr} {ea : E} {pos : Pos} (ha : PE X a (tM X W l ea)) : PE X (.UnaryOp .Not a pos) (tM X W l (.not ea)) := by
  refine peImp (pe_not ha) fun τ H Q ⟨φ, χ, σ, h, rs, hr, o⟩ => ?_
  unfold evE at o
  refine tM.ofB rs hr ((boolV_out o).mono fun φ1 χ1 H1 d h1 _ x hr1 g => ?_)
  obtain ⟨b, rfl, g⟩ := g
  exact ⟨b, rfl, fun _ => ⟨b, rfl, Out.same0 hr1 (.bl _) g⟩⟩
theorem m_notT {a : Expr} {ea : E} {pos : Pos} (ha : PT X a (tMt X W l ea)) : PT X (.UnaryOp .Not a pos) (tMt X W l (.not ea)) := by
  refine ptImp (pt_not ha) fun τ H Q ⟨φ, χ, σ, h, rs, hr, o⟩ => ?_
  unfold evE at o
  refine tMt.of rs hr ((boolV_out o).mono fun φ1 χ1 H1 d h1 _ x hr1 g => ?_)
  obtain ⟨b, rfl, g⟩ := g
  refine ⟨b, rfl, fun _ => ?_⟩
  obtain ⟨c, e, q⟩ := (show ∃ c, D.bl (!b) = .bl c ∧ Q c H1 from g _ _ _ .refl hr1)
  cases e
  exact q
theorem m_and {a b : Expr} {rest : List Expr} {ea eb : E} {pos : Pos} (ha : PE X a (tM X W l ea)) (hb : PE X (.BoolOp .And (b :: rest) pos) (tM X W l eb)) : PE X (.BoolOp .And (a :: b :: rest) pos) (tM X W l (.and ea eb)) := by
  refine peImp (pe_and ha hb) fun τ H Q ⟨φ, χ, σ, h, rs, hr, o⟩ => ?_
  unfold evE at o
  refine tM.ofB rs hr ((boolV_out o).mono fun φ1 χ1 H1 d h1 _ x hr1 g => ?_)
  obtain ⟨c, rfl, g⟩ := g
  refine ⟨c, rfl, fun _ => ⟨c, rfl, ?_⟩⟩
  cases c with
  | true =>
    rw [if_pos rfl] at g ⊢
    exact tM.last (fr := false) (rs.ext x) hr1 (fun p hn => x.back hr1 hr hn) rfl g
  | false =>
    rw [if_neg (by decide)] at g ⊢
    exact Out.same0 hr1 (.bl _) g
theorem m_or {a b : Expr} {rest : List Expr} {ea eb : E} {pos : Pos} (ha : PE X a (tM X W l ea)) (hb : PE X (.BoolOp .Or (b :: rest) pos) (tM X W l eb)) : PE X (.BoolOp .Or (a :: b :: rest) pos) (tM X W l (.or ea eb)) := by
  refine peImp (pe_or ha hb) fun τ H Q ⟨φ, χ, σ, h, rs, hr, o⟩ => ?_
  unfold evE at o
  refine tM.ofB rs hr ((boolV_out o).mono fun φ1 χ1 H1 d h1 _ x hr1 g => ?_)
  obtain ⟨c, rfl, g⟩ := g
  refine ⟨c, rfl, fun _ => ⟨c, rfl, ?_⟩⟩
  cases c with
  | true =>
    rw [if_pos rfl] at g ⊢
    exact Out.same0 hr1 (.bl _) g
  | false =>
    rw [if_neg (by decide)] at g ⊢
    exact tM.last (fr := false) (rs.ext x) hr1 (fun p hn => x.back hr1 hr hn) rfl g
theorem pwImp {e : Expr} {t t' : TT} (p : PW X e t) (k : ∀ τ H Q, t' τ H Q → t τ H Q) : PW X e t' := ⟨fun wh pins s σ H Q I q => p.run wh pins s σ H Q I (k σ H Q q)⟩
theorem m_andW {a b : Expr} {rest : List Expr} {ea eb : E} {pos : Pos} (ha : PT X a (tMt X W l ea)) (hb : PW X (.BoolOp .And (b :: rest) pos) (tMt X W l eb)) : PW X (.BoolOp .And (a :: b :: rest) pos) (tMt X W l (.and ea eb)) := by
  refine pwImp (pw_and ha hb) fun τ H Q ⟨φ, χ, σ, h, rs, hr, o⟩ => ?_
  unfold evE at o
  refine tMt.of rs hr ((boolV_out o).mono fun φ1 χ1 H1 d h1 _ x hr1 g => ?_)
  obtain ⟨c, rfl, g⟩ := g
  refine ⟨c, rfl, fun _ => ?_⟩
  cases c with
  | true =>
    rw [if_pos rfl] at g ⊢
    exact ⟨φ1, χ1, σ, h1, rs.ext x, hr1, g⟩
  | false =>
    rw [if_neg (by decide)] at g ⊢
    obtain ⟨k, e, q⟩ := (show ∃ c, D.bl false = .bl c ∧ Q c H1 from g _ _ _ .refl hr1)
    cases e
    exact q
theorem m_orW {a b : Expr} {rest : List Expr} {ea eb : E} {pos : Pos} (ha : PT X a (tMt X W l ea)) (hb : PW X (.BoolOp .Or (b :: rest) pos) (tMt X W l eb)) : PW X (.BoolOp .Or (a :: b :: rest) pos) (tMt X W l (.or ea eb)) := by
  refine pwImp (pw_or ha hb) fun τ H Q ⟨φ, χ, σ, h, rs, hr, o⟩ => ?_
  unfold evE at o
  refine tMt.of rs hr ((boolV_out o).mono fun φ1 χ1 H1 d h1 _ x hr1 g => ?_)
  obtain ⟨c, rfl, g⟩ := g
  refine ⟨c, rfl, fun _ => ?_⟩
  cases c with
  | true =>
    rw [if_pos rfl] at g ⊢
    obtain ⟨k, e, q⟩ := (show ∃ c, D.bl true = .bl c ∧ Q c H1 from g _ _ _ .refl hr1)
    cases e
    exact q
  | false =>
    rw [if_neg (by decide)] at g ⊢
    exact ⟨φ1, χ1, σ, h1, rs.ext x, hr1, g⟩
/-- comparisons as tests: as values, asked -/
theorem pt_cmpv {e a b : Expr} {o : CmpOp} {t : TE} {pos : Pos} (ee : E) (hp : PT X (.Compare a [o] [b] pos) (tTest t)) (hi : ∀ τ H Q, tM X W l ee τ H Q → t τ H Q) : PT X (.Compare a [o] [b] pos) (tMt X W l ee) := by
  refine ptImp hp fun τ H Q ⟨φ, χ, σ, h, rs, hr, o⟩ => hi τ H _ ⟨φ, χ, σ, h, rs, hr, o.mono fun φ' χ' H' d h' _ x hr' g v rv => ?_⟩
  obtain ⟨b, rfl, q⟩ := g
  cases rv with
  | plain rv _ => cases rv; exact ⟨b, rfl, q⟩
theorem tM.two {ea eb : E} {whole : E} {r : R2} {f : Hh → D → D → R D} 
    (hev : ∀ σ h, evE l whole σ h = (evE l ea σ h).bind fun x h => (evE l eb σ h).bind fun y h => f h x y)
    (hk : ∀ (τ : L2.St) (φ : List Addr) (χ : Ads) (H H0 : Hp) (h : Hh) (d1 d2 : D) (v1 v2 : V) (Q : VK), HR X.K X.mg φ χ H l h → RV X.K φ χ H d1 v1 → RV X.K φ χ H d2 v2 → (∀ p, H p = none → H0 p = none) →
      Out X W l τ φ χ H (f h d1 d2) (fun φ' χ' H' d _ => ∀ v, RVf whole.fresh X.K H0 φ' χ' H' d v → Q v H') → r v1 v2 H Q) :
    ∀ τ H Q, tM X W l whole τ H Q → tOp r (tM X W l ea) (tM X W l eb) τ H Q := by
  intro τ H Q ⟨φ, χ, σ, h, rs, hr, o⟩
  rw [hev] at o
  refine tM.of rs hr (o.bind.mono fun φ1 χ1 H1 d1 h1 _ x1 hr1 g1 _ v1 rv1 => ?_)
  refine tM.of (rs.ext x1) hr1 (g1.bind.mono fun φ2 χ2 H2 d2 h2 _ x2 hr2 g2 _ v2 rv2 => ?_)
  exact hk τ φ2 χ2 H2 H h2 d1 d2 v1 v2 Q hr2 (rv1.ext x2) rv2 (fun p hn => (x1.trans x2).back hr2 hr hn) g2
theorem m_cmpT {a b : Expr} {ea eb : E} {o : Cop} {pos : Pos} (hu : X.A.units + 65 < cLine) (hm : behindInMarks (opC o) b = false) (ha : PE X a (tM X W l ea)) (hb : PE X b (tM X W l eb)) : PT X (.Compare a [opC o] [b] pos) (tMt X W l (.cmp o ea eb)) :=
  pt_cmpv (e := a) (.cmp o ea eb) (pt_cmpR (cop_op hu o) ha hb hm) (tM.two (fun σ h => by conv => lhs; unfold evE) fun τ φ χ H H0 h d1 d2 v1 v2 Q hr r1 r2 _ o' => cop_ok o τ φ χ H H0 h d1 d2 v1 v2 Q hr r1 r2 o')
end
end Mp

set_option maxRecDepth 100000
/-! Mp2e: chains, None, choices, displays, places, slices, types. -/
namespace Mp
open PySem PySem.Spec PyProof.Rows L2

section
variable {X : Cx} {W : WX} {l : List Nat} {τ : L2.St} {φ φ' φ1 : List Addr} {χ χ' χ1 : Ads} {H H' H1 H0 : Hp} {h h' : Hh} {α β : Type} {K : PySem.W.Frag} {mg : Str → Option Value}

/-- .. with the slots' reading at hand -/
theorem tM.to {e : E} {σ : Sg} {Q : VK} (rs : RS X.K φ χ H σ τ) (hr : HR X.K X.mg φ χ H l h)
    (o : Out X W l τ φ χ H (evE l e σ h) fun φ' χ' H' d h' => Ext φ χ H φ' χ' H' → HR X.K X.mg φ' χ' H' l h' → ∀ v, RV X.K φ' χ' H' d v → Q v H') : tM X W l e τ H Q :=
  ⟨φ, χ, σ, h, rs, hr, (o.mono fun φ' χ' H' a h' _ x hr' g => g x hr').plain hr⟩

theorem tM.chain {o p : Cop} {ea eb ec : E} : ∀ τ H Q, tM X W l (.chain o p ea eb ec) τ H Q → tChain (rCop X.K o) (rCop X.K p) (tM X W l ea) (tM X W l eb) (tM X W l ec) τ H Q := by
  intro τ H Q ⟨φ, χ, σ, h, rs, hr, oo⟩
  unfold evE at oo
  refine tM.to rs hr (oo.bind.mono fun φ1 χ1 H1 d1 h1 _ x1 _ g1 _ hr1 v1 rv1 => ?_)
  refine tM.to (rs.ext x1) hr1 (g1.bind.mono fun φ2 χ2 H2 d2 h2 _ x2 _ g2 _ hr2 v2 rv2 => ?_)
  refine cop_ok (W := W) (l := l) o τ φ2 χ2 H2 H2 h2 d1 d2 v1 v2 _ hr2 (rv1.ext x2) rv2 ((boolV_out g2).mono fun φ3 χ3 H3 d3 h3 _ x3 hr3 g3 v3 rv3 => ?_)
  obtain ⟨b, rfl, g3⟩ := g3
  cases rv3 with
  | plain rv3 _ =>
    cases rv3
    refine ⟨b, rfl, ?_⟩
    cases b with
    | false =>
      rw [if_neg (by decide)] at g3 ⊢
      exact Out.same0 (H0 := H) hr3 (.bl _) g3
    | true =>
      rw [if_pos rfl] at g3 ⊢
      refine tM.to (rs.ext ((x1.trans x2).trans x3)) hr3 (g3.bind.mono fun φ4 χ4 H4 d4 h4 _ x4 _ g4 _ hr4 v4 rv4 => ?_)
      exact cop_ok (W := W) (l := l) p τ φ4 χ4 H4 H h4 d2 d4 v2 v4 _ hr4 (rv2.ext (x3.trans x4)) rv4 g4
theorem m_chain {a b c : Expr} {ea eb ec : E} {o p : Cop} {pos : Pos} (hu : X.A.units + 65 < cLine) (hm : behindInMarks (opC p) c = false) (ha : PE X a (tM X W l ea)) (hb : PE X b (tM X W l eb)) (hc : PE X c (tM X W l ec)) :
    PE X (.Compare a [opC o, opC p] [b, c] pos) (tM X W l (.chain o p ea eb ec)) := peImp (pe_chain (cop_op hu o) (cop_op hu p) ha hb hc hm) tM.chain
theorem m_chainT {a b c : Expr} {ea eb ec : E} {o p : Cop} {pos : Pos} (hu : X.A.units + 65 < cLine) (hm : behindInMarks (opC p) c = false) (ha : PE X a (tM X W l ea)) (hb : PE X b (tM X W l eb)) (hc : PE X c (tM X W l ec)) :
    PT X (.Compare a [opC o, opC p] [b, c] pos) (tMt X W l (.chain o p ea eb ec)) := by
  refine ptImp (pt_chain (cop_op hu o) (cop_op hu p) ha hb hc hm) fun τ H Q ⟨φ, χ, σ, h, rs, hr, oo⟩ => tM.chain τ H _ ⟨φ, χ, σ, h, rs, hr, oo.mono fun φ' χ' H' d h' _ x hr' g v rv => ?_⟩
  obtain ⟨b, rfl, q⟩ := g
  cases rv with
  | plain rv _ => cases rv; exact ⟨b, rfl, q⟩

theorem isNon_eq {d : D} {v : V} (r : RV K φ χ H d v) : isNon d = decide (v = .non) := by
  cases r <;> rfl
theorem m_isN {a : Expr} {ea : E} {j : Nat} {p pos : Pos} (ha : PE X a (tM X W l ea)) : PE X (.Compare a [.Is] [.Constant .none j p] pos) (tM X W l (.isN ea)) := by
  refine peImp (pe_cmp (pc_isN ha) rfl) fun τ H Q ⟨φ, χ, σ, h, rs, hr, o⟩ => ?_
  unfold evE at o
  refine tM.to rs hr (o.bind.mono fun φ1 χ1 H1 d1 h1 _ x1 _ g1 _ hr1 v1 rv1 => ?_)
  rw [isNon_eq rv1] at g1
  exact Out.same0 hr1 (.bl _) g1
theorem m_notN {a : Expr} {ea : E} {j : Nat} {p pos : Pos} (ha : PE X a (tM X W l ea)) : PE X (.Compare a [.IsNot] [.Constant .none j p] pos) (tM X W l (.notN ea)) := by
  refine peImp (pe_cmp (pc_notN ha) rfl) fun τ H Q ⟨φ, χ, σ, h, rs, hr, o⟩ => ?_
  unfold evE at o
  refine tM.to rs hr (o.bind.mono fun φ1 χ1 H1 d1 h1 _ x1 _ g1 _ hr1 v1 rv1 => ?_)
  rw [isNon_eq rv1] at g1
  exact Out.same0 hr1 (.bl _) g1
theorem m_isNT {a : Expr} {ea : E} {j : Nat} {p pos : Pos} (ha : PE X a (tM X W l ea)) : PT X (.Compare a [.Is] [.Constant .none j p] pos) (tMt X W l (.isN ea)) := by
  refine ptImp (pt_cmp (pc_isN ha) rfl) fun τ H Q ⟨φ, χ, σ, h, rs, hr, o⟩ => ?_
  unfold evE at o
  refine tM.to rs hr (o.bind.mono fun φ1 χ1 H1 d1 h1 _ x1 _ g1 _ hr1 v1 rv1 => ?_)
  obtain ⟨b, e, q⟩ := (show ∃ c, D.bl (isNon d1) = .bl c ∧ Q c H1 from g1 _ _ _ .refl hr1)
  cases e
  exact ⟨_, rfl, by rw [← isNon_eq rv1]; exact q⟩
theorem m_notNT {a : Expr} {ea : E} {j : Nat} {p pos : Pos} (ha : PE X a (tM X W l ea)) : PT X (.Compare a [.IsNot] [.Constant .none j p] pos) (tMt X W l (.notN ea)) := by
  refine ptImp (pt_cmp (pc_notN ha) rfl) fun τ H Q ⟨φ, χ, σ, h, rs, hr, o⟩ => ?_
  unfold evE at o
  refine tM.to rs hr (o.bind.mono fun φ1 χ1 H1 d1 h1 _ x1 _ g1 _ hr1 v1 rv1 => ?_)
  obtain ⟨b, e, q⟩ := (show ∃ c, D.bl (!isNon d1) = .bl c ∧ Q c H1 from g1 _ _ _ .refl hr1)
  cases e
  exact ⟨_, rfl, by rw [← isNon_eq rv1]; exact q⟩
/-- is True, is False -/
def rIsB2 : R2 := fun x y H Q => ∃ b : Bool, y = .bl b ∧ ((∃ a : Bool, x = .bl a ∧ Q (.bl (decide (a = b))) H) ∨ (x = .non ∧ Q (.bl false) H))
def rNotB2 : R2 := fun x y H Q => ∃ b : Bool, y = .bl b ∧ ((∃ a : Bool, x = .bl a ∧ Q (.bl (!decide (a = b))) H) ∨ (x = .non ∧ Q (.bl true) H))
theorem op_isB2 : OpR X (compareOp .Is) rIsB2 := by
  intro pins s σ H x y v u Q I rx ry hh
  obtain ⟨b, rfl, ⟨a, rfl, q⟩ | ⟨rfl, q⟩⟩ := hh
  · exact op_isBl pins s σ H _ _ v u Q I rx ry ⟨a, b, rfl, rfl, q⟩
  · cases rx; cases ry
    exact wpAny_is_other rfl (fun z => nomatch z) ⟨.bl false, H, I, rfl, q⟩
theorem op_notB2 : OpR X (compareOp .IsNot) rNotB2 := by
  intro pins s σ H x y v u Q I rx ry hh
  obtain ⟨b, rfl, ⟨a, rfl, q⟩ | ⟨rfl, q⟩⟩ := hh
  · exact op_notBl pins s σ H _ _ v u Q I rx ry ⟨a, b, rfl, rfl, q⟩
  · cases rx; cases ry
    exact wpAny_isNot_other rfl (fun z => nomatch z) ⟨.bl true, H, I, rfl, q⟩
theorem tM.isB {ea : E} {b : Bool} : ∀ τ H Q, tM X W l (.isB ea b) τ H Q → tOp rIsB2 (tM X W l ea) (tC (.bl b)) τ H Q := by
  intro τ H Q ⟨φ, χ, σ, h, rs, hr, o⟩
  unfold evE at o
  refine tM.to rs hr (o.bind.mono fun φ1 χ1 H1 d1 h1 _ x1 _ g1 _ hr1 v1 rv1 => ⟨b, rfl, ?_⟩)
  unfold isBV at g1
  split at g1
  · cases rv1; exact .inl ⟨_, rfl, Out.same0 (H0 := H) hr1 (.bl _) g1⟩
  · cases rv1; exact .inr ⟨rfl, Out.same0 (H0 := H) hr1 (.bl _) g1⟩
  · exact g1.elim
theorem tM.notB {ea : E} {b : Bool} : ∀ τ H Q, tM X W l (.notB ea b) τ H Q → tOp rNotB2 (tM X W l ea) (tC (.bl b)) τ H Q := by
  intro τ H Q ⟨φ, χ, σ, h, rs, hr, o⟩
  unfold evE at o
  refine tM.to rs hr (o.bind.mono fun φ1 χ1 H1 d1 h1 _ x1 _ g1 _ hr1 v1 rv1 => ⟨b, rfl, ?_⟩)
  unfold notBV at g1
  split at g1
  · cases rv1; exact .inl ⟨_, rfl, Out.same0 (H0 := H) hr1 (.bl _) g1⟩
  · cases rv1; exact .inr ⟨rfl, Out.same0 (H0 := H) hr1 (.bl _) g1⟩
  · exact g1.elim
theorem m_isB {a : Expr} {ea : E} {b : Bool} {j : Nat} {p pos : Pos} (ha : PE X a (tM X W l ea)) : PE X (.Compare a [.Is] [.Constant (.bool b) j p] pos) (tM X W l (.isB ea b)) := peImp (pe_cmpR op_isB2 ha pe_bl rfl) tM.isB
theorem m_notB {a : Expr} {ea : E} {b : Bool} {j : Nat} {p pos : Pos} (ha : PE X a (tM X W l ea)) : PE X (.Compare a [.IsNot] [.Constant (.bool b) j p] pos) (tM X W l (.notB ea b)) := peImp (pe_cmpR op_notB2 ha pe_bl rfl) tM.notB
theorem m_isBT {a : Expr} {ea : E} {b : Bool} {j : Nat} {p pos : Pos} (ha : PE X a (tM X W l ea)) : PT X (.Compare a [.Is] [.Constant (.bool b) j p] pos) (tMt X W l (.isB ea b)) := pt_cmpv (e := a) _ (pt_cmpR op_isB2 ha pe_bl rfl) tM.isB
theorem m_notBT {a : Expr} {ea : E} {b : Bool} {j : Nat} {p pos : Pos} (ha : PE X a (tM X W l ea)) : PT X (.Compare a [.IsNot] [.Constant (.bool b) j p] pos) (tMt X W l (.notB ea b)) := pt_cmpv (e := a) _ (pt_cmpR op_notB2 ha pe_bl rfl) tM.notB

theorem m_ite {c a b : Expr} {ec ea eb : E} {pos : Pos} (hc : PT X c (tMt X W l ec)) (ha : PE X a (tM X W l ea)) (hb : PE X b (tM X W l eb)) : PE X (.IfExp c a b pos) (tM X W l (.ite ec ea eb)) := by
  refine peImp (pe_ifExp hc ha hb) fun τ H Q ⟨φ, χ, σ, h, rs, hr, o⟩ => ?_
  unfold evE at o
  refine tMt.of rs hr ((boolV_out o).mono fun φ1 χ1 H1 d h1 _ x hr1 g => ?_)
  obtain ⟨k, rfl, g⟩ := g
  refine ⟨k, rfl, fun _ => ?_⟩
  cases k with
  | true =>
    rw [if_pos rfl] at g ⊢
    exact tM.last (fr := false) (rs.ext x) hr1 (fun p hn => x.back hr1 hr hn) rfl g
  | false =>
    rw [if_neg (by decide)] at g ⊢
    exact tM.last (fr := false) (rs.ext x) hr1 (fun p hn => x.back hr1 hr hn) rfl g

/-! ### argument lists -/
theorem m_nil : PA X [] (tMs X W l .nil) := paImp pa_nil fun τ H Q ⟨φ, χ, σ, h, rs, hr, o⟩ => by
  unfold evL at o
  exact o _ _ _ .refl hr [] .nil
theorem tMs.of {es : EL} {σ : Sg} {Q : List V → Hp → Prop} (rs : RS X.K φ χ H σ τ) (hr : HR X.K X.mg φ χ H l h)
    (o : Out X W l τ φ χ H (evL l es σ h) fun φ' χ' H' ds h' => Ext φ χ H φ' χ' H' → HR X.K X.mg φ' χ' H' l h' → ∀ vs, RVs X.K φ' χ' H' ds vs → Q vs H') : tMs X W l es τ H Q :=
  ⟨φ, χ, σ, h, rs, hr, o.mono fun φ' χ' H' a h' _ x hr' g => g x hr'⟩
theorem m_cons {a : Expr} {as : List Expr} {e : E} {es : EL} (ha : PE X a (tM X W l e)) (hs : PA X as (tMs X W l es)) (hst : starEach (a :: as) X.env = (false, eval a X.env) :: starEach as X.env) : PA X (a :: as) (tMs X W l (.cons e es)) := by
  refine paImp (pa_cons ha hs hst) fun τ H Q ⟨φ, χ, σ, h, rs, hr, o⟩ => ?_
  unfold evL at o
  refine tM.to rs hr (o.bind.mono fun φ1 χ1 H1 d1 h1 _ x1 _ g1 _ hr1 v1 rv1 => ?_)
  refine tMs.of (rs.ext x1) hr1 (g1.bind.mono fun φ2 χ2 H2 ds h2 _ x2 _ g2 _ hr2 vs rvs => ?_)
  exact g2 _ _ _ .refl hr2 (v1 :: vs) (.cons (rv1.ext x2) rvs)
theorem m_tup {as : List Expr} {es : EL} {k : Nat} {pos : Pos} (hs : PA X as (tMs X W l es)) : PE X (.Tuple as k pos) (tM X W l (.tup es)) := by
  refine peImp (pe_tup hs) fun τ H Q ⟨φ, χ, σ, h, rs, hr, o⟩ => ?_
  unfold evE at o
  refine tMs.of rs hr (o.bind.mono fun φ1 χ1 H1 ds h1 _ x1 _ g1 _ hr1 vs rvs => ?_)
  split at g1
  · rename_i hl
    exact ⟨by rw [← rvs.length]; exact hl, fun p hp => Out.tup hr1 rvs hp g1⟩
  · exact g1.elim
theorem m_lst {as : List Expr} {es : EL} {pos : Pos} (hs : PA X as (tMs X W l es)) : PE X (.List as pos) (tM X W l (.lst es)) := by
  refine peImp (pe_lst hs) fun τ H Q ⟨φ, χ, σ, h, rs, hr, o⟩ => ?_
  unfold evE at o
  refine tMs.of rs hr (o.bind.mono fun φ1 χ1 H1 ds h1 _ x1 _ g1 _ hr1 vs rvs => ?_)
  split at g1
  · rename_i hl
    exact ⟨by rw [← rvs.length]; exact hl, fun p hp => Out.new hr1 rvs hp (x1.back hr1 hr hp) g1⟩
  · exact g1.elim

/-! ### places and slices -/
theorem ixAt_eq (n : Nat) (i : Int) : ixN n i = ixAt n i := rfl
theorem atD_atI {ds : List D} {vs : List V} (r : RVs K φ χ H ds vs) {i : Int} {d : D} (e : atD ds i = some d) : ∃ v, atI vs i = some v ∧ RV K φ χ H d v := by
  unfold atD at e
  obtain ⟨j, e1, e2⟩ := Option.bind_eq_some_iff.mp e
  obtain ⟨v, q1, q2⟩ := r.get e2
  exact ⟨v, by unfold atI; rw [ixAt_eq, ← r.length, e1]; exact q1, q2⟩
theorem m_ix {a b : Expr} {ea eb : E} {pos : Pos} (hs : PlainIx b) (ha : PE X a (tM X W l ea)) (hb : PE X b (tM X W l eb)) : PE X (.Subscript a b pos) (tM X W l (.ix ea eb)) := by
  refine m_two (a := a) (b := b) (f := ixV) (pe_ix ix_seq ha hb hs) (fun σ h => by conv => lhs; unfold evE) fun τ φ χ H H0 h d1 d2 v1 v2 Q hr r1 r2 _ o => ?_
  unfold ixV at o
  split at o
  · split at o
    · rename_i s i c e
      split at o
      · rename_i hl
        cases r1; cases r2
        exact .inr (.inr ⟨_, _, _, rfl, rfl, hl, e, Out.same0 hr (.str _) o⟩)
      · exact o.elim
    · exact o.elim
  · split at o
    · rename_i x i hne d e
      cases r2
      obtain ⟨xs, e1, e2⟩ := Option.bind_eq_some_iff.mp e
      obtain ⟨p, vs, rfl, q, s⟩ := r1.seqOf hr e1
      obtain ⟨v, q1, q2⟩ := atD_atI s e2
      have qq : Q v H := Out.same0 hr q2 o
      rcases q with q | q
      · exact .inl ⟨p, vs, _, v, rfl, rfl, q, q1, qq⟩
      · exact .inr (.inl ⟨p, vs, _, v, rfl, rfl, q, q1, qq⟩)
    · exact o.elim
  · exact o.elim
theorem cutIx_eq (n d : Nat) (o : Option Int) : HT.sIx n d o = cutIx n d o := rfl
theorem cut_rvs {ds : List D} {vs : List V} (r : RVs K φ χ H ds vs) (lo hi : Option Int) : RVs K φ χ H (cut ds lo hi) (cutV vs lo hi) := by
  unfold cut cutV
  rw [cutIx_eq, cutIx_eq, ← r.length]
  exact (r.drop _).take _
theorem cutV_whole {vs : List V} {lo hi : Option Int} (hw : HT.sIx vs.length 0 lo = 0 ∧ HT.sIx vs.length vs.length hi = vs.length) : cutV vs lo hi = vs := by
  unfold cutV
  rw [hw.1, hw.2]
  simp
/-- an optional part's reading -/
def tMo (X : Cx) (W : WX) (l : List Nat) (e : E) : TO := fun τ H Q => ∃ φ χ σ h, RS X.K φ χ H σ τ ∧ HR X.K X.mg φ χ H l h ∧
  Out X W l τ φ χ H (evE l e σ h) fun _ _ H' d _ => ∃ o, (isNo e = true ∧ o = none ∨ isNo e = false ∧ ∃ i, d = .int i ∧ o = some i) ∧ Q o H'
theorem m_noPart : PO X none (tMo X W l .no) := ⟨fun pins s σ H Q I q => po_none.run pins s σ H Q I (by
  obtain ⟨φ, χ, σ', h, rs, hr, o⟩ := q
  unfold evE at o
  obtain ⟨o', e, q⟩ := o _ _ _ .refl hr
  rcases e with ⟨_, rfl⟩ | ⟨e, _⟩
  · exact q
  · cases e)⟩
theorem m_part {a : Expr} {ea : E} (hno : isNo ea = false) (ha : PE X a (tM X W l ea)) : PO X (some a) (tMo X W l ea) := ⟨fun pins s σ H Q I q => (po_some ha).run pins s σ H Q I (by
  obtain ⟨φ, χ, σ', h, rs, hr, o⟩ := q
  refine tM.to rs hr (o.mono fun φ1 χ1 H1 d1 h1 _ x1 hr1 g _ _ v rv => ?_)
  obtain ⟨o', e, q⟩ := g
  rcases e with ⟨e, rfl⟩ | ⟨_, i, rfl, rfl⟩
  · rw [hno] at e; cases e
  · cases rv; exact ⟨i, rfl, q⟩)⟩
theorem optV_out {n : Bool} {r : R D} {f : Option Int → Hh → R β} {good : List Addr → Ads → Hp → β → Hh → Prop} (o : Out X W l τ φ χ H (r.bind (optV n f)) good) :
    Out X W l τ φ χ H r fun φ' χ' H' d h' => ∃ o, (n = true ∧ o = none ∨ n = false ∧ ∃ i, d = .int i ∧ o = some i) ∧ Out X W l τ φ' χ' H' (f o h') good :=
  o.bind.mono fun φ' χ' H' d h' _ x hr g => by
    unfold optV at g
    split at g
    · exact ⟨none, .inl ⟨rfl, rfl⟩, g⟩
    · exact ⟨some _, .inr ⟨rfl, _, rfl, rfl⟩, g⟩
    · exact g.elim
theorem tMo.of {e : E} {σ : Sg} {Q : Option Int → Hp → Prop} (rs : RS X.K φ χ H σ τ) (hr : HR X.K X.mg φ χ H l h)
    (o : Out X W l τ φ χ H (evE l e σ h) fun φ' χ' H' d h' => ∃ o, (isNo e = true ∧ o = none ∨ isNo e = false ∧ ∃ i, d = .int i ∧ o = some i) ∧ (Ext φ χ H φ' χ' H' → HR X.K X.mg φ' χ' H' l h' → Q o H')) : tMo X W l e τ H Q :=
  ⟨φ, χ, σ, h, rs, hr, o.mono fun φ' χ' H' a h' _ x hr' ⟨o, e, g⟩ => ⟨o, e, g x hr'⟩⟩
theorem m_sl {a : Expr} {lo hi : Option Expr} {ea el eh : E} {p2 pos : Pos} (ha : PE X a (tM X W l ea)) (hl : PO X lo (tMo X W l el)) (hh : PO X hi (tMo X W l eh)) : PE X (.Subscript a (.Slice lo hi none p2) pos) (tM X W l (.sl ea el eh)) := by
  refine peImp (pe_slice (SlR.or sl_tupA sl_list) ha hl hh) fun τ H Q ⟨φ, χ, σ, h, rs, hr, o⟩ => ?_
  unfold evE at o
  refine tM.to rs hr (o.bind.mono fun φ1 χ1 H1 d1 h1 _ x1 _ g1 _ hr1 v1 rv1 => ?_)
  refine tMo.of (rs.ext x1) hr1 ((optV_out g1).mono fun φ2 χ2 H2 d2 h2 _ x2 _ ⟨i, ei, g2⟩ => ⟨i, ei, fun _ hr2 => ?_⟩)
  refine tMo.of (rs.ext (x1.trans x2)) hr2 ((optV_out g2).mono fun φ3 χ3 H3 d3 h3 _ x3 _ ⟨j, ej, g3⟩ => ⟨j, ej, fun _ hr3 => ?_⟩)
  have x := x1.trans (x2.trans x3)
  have rv := rv1.ext (x2.trans x3)
  unfold slV at g3
  split at g3
  · cases rv with
    | @tup p vs _ t s =>
      have sc := cut_rvs s i j
      refine .inl ⟨p, vs, rfl, t.sq, fun hw => ?_, fun hw q hq => Out.tup hr3 sc hq g3⟩
      rw [cutV_whole hw] at sc
      exact Out.same hr3 (.tup t sc) (fun _ _ e => nomatch e) g3
  · exact g3.elim
  · split at g3
    · rename_i xs e
      obtain ⟨p, vs, rfl, q, s⟩ := rv.listOf hr3 e
      exact .inr ⟨p, vs, rfl, q, fun q hq => Out.new hr3 (cut_rvs s i j) hq (x.back hr3 hr hq) g3⟩
    · exact g3.elim
theorem m_rev {a : Expr} {ea : E} {k : Nat} {p1 p2 p3 pos : Pos} (ha : PE X a (tM X W l ea)) : PE X (.Subscript a (.Slice none none (some (.UnaryOp .USub (.Constant (.int 1) k p1) p2)) p3) pos) (tM X W l (.rev ea)) := by
  refine peImp (pe_revL ha) fun τ H Q ⟨φ, χ, σ, h, rs, hr, o⟩ => ?_
  unfold evE at o
  refine tM.to rs hr (o.bind.mono fun φ1 χ1 H1 d1 h1 _ x1 _ g1 _ hr1 v1 rv1 => ?_)
  unfold revV at g1
  split at g1
  · rename_i xs e
    obtain ⟨p, vs, rfl, q, s⟩ := rv1.listOf hr1 e
    exact ⟨p, vs, rfl, q, fun q hq => Out.new hr1 s.rev hq (x1.back hr1 hr hq) g1⟩
  · exact g1.elim
/-- a list of ours from now on -/
theorem HR.take_in {p : Addr} {ds : List D} {vs : List V} (hr1 : HR K mg φ χ H l h) (c1 : χ p) (c2 : p ∉ φ) (c4 : H p = some (.lst vs)) (c5 : RVs K φ χ H ds vs) : HR K mg (φ ++ [p]) χ H l (h ++ [.lst ds]) := by
  have x2 : ExtW φ χ H (φ ++ [p]) χ H := ⟨⟨[p], rfl⟩, fun _ q => q, fun _ q n => absurd q n, fun _ _ _ q => q, fun _ _ q => q, fun _ _ _ q => q⟩
  refine ⟨by rw [List.length_append, List.length_append, hr1.len]; rfl, ?_, fun a ha => ?_, fun n a o e1 e2 => ?_, fun b hb n o hn e => ?_, fun b hb => ?_, hr1.ch⟩
  · rw [List.nodup_append]
    refine ⟨hr1.nd, by simp, fun a ha b hb e => ?_⟩
    rw [List.mem_singleton] at hb
    rw [e, hb] at ha
    exact c2 ha
  · rcases List.mem_append.mp ha with q | q
    · exact hr1.sub a q
    · rw [List.mem_singleton] at q; rw [q]; exact c1
  · by_cases hn : n < φ.length
    · rw [List.getElem?_append_left hn] at e1
      rw [List.getElem?_append_left (by rw [← hr1.len]; exact hn)] at e2
      exact (hr1.ob n a o e1 e2).extW x2 rfl
    · rw [List.getElem?_append_right (by omega)] at e1
      rw [List.getElem?_append_right (by rw [← hr1.len]; omega)] at e2
      rw [← hr1.len] at e2
      cases hk : n - φ.length with
      | zero =>
        rw [hk] at e1 e2
        simp at e1 e2
        subst e1; subst e2
        exact .lst c4 (c5.extW x2)
      | succ k => rw [hk] at e1; simp at e1
  · have hb' := hr1.top b hb
    rw [List.getElem?_append_left (by omega)] at e
    exact hr1.lim b hb n o hn e
  · have hb' := hr1.top b hb
    rw [List.length_append]
    omega
theorem m_alloc {a : Expr} {ea : E} (hf : ea.fresh = true) (ha : PE X a (tM X W l ea)) : PE X a (tM X W l (.alloc ea)) := by
  refine peImp ha fun τ H Q ⟨φ, χ, σ, h, rs, hr, o⟩ => ?_
  unfold evE at o
  refine ⟨φ, χ, σ, h, rs, hr, ?_⟩
  cases e : evE l ea σ h with
  | bad => rw [e] at o; exact o
  | ex x fs h' => rw [e] at o; exact o
  | ok d1 h1 =>
    rw [e] at o
    intro φ1 χ1 H1 x1 hr1 v rv
    have o : Out X W l τ φ χ H (allocV h1 d1) _ := o
    unfold allocV at o
    split at o
    · cases rv with
      | plain rv hn => exact absurd rfl (hn hf _)
      | @new p ds vs _ c1 c2 c3 c4 c5 =>
        have x2 : Ext φ χ H (φ1 ++ [p]) χ1 H1 := by
          refine ⟨⟨?_, x1.sub, x1.new, x1.keep, x1.tups, x1.frl⟩, x1.kp, fun a ha hn => ?_⟩
          · obtain ⟨r, er⟩ := x1.pre
            exact ⟨r ++ [p], by rw [er, List.append_assoc]⟩
          · rcases List.mem_append.mp ha with q | q
            · exact x1.fr a q hn
            · rw [List.mem_singleton] at q; rw [q]; exact c3
        exact o _ χ1 H1 x2 (hr1.take_in c1 c2 c4 c5) _ (.plain (.ref (by rw [← hr1.len, List.getElem?_append_right (Nat.le_refl _), Nat.sub_self]; rfl)) (fun q => by cases q))
    · exact o.elim
end
end Mp

set_option maxRecDepth 100000
/-! Mp2f: built-in functions and methods. -/
namespace Mp
open PySem PySem.Spec PyProof.Rows L2

section
variable {X : Cx} {W : WX} {l : List Nat} {τ : L2.St} {φ φ' φ1 : List Addr} {χ χ' χ1 : Ads} {H H' H1 H0 : Hp} {h h' : Hh} {α β : Type} {K : PySem.W.Frag} {mg : Str → Option Value}

/-- what a built-in function's rule asks is met -/
def BltOk (X : Cx) (W : WX) (l : List Nat) (b : Blt) (r : List V → Hp → VK → Prop) : Prop := ∀ (τ : L2.St) (φ : List Addr) (χ : Ads) (H H0 : Hp) (h : Hh) (ds : List D) (vs : List V) (Q : VK), HR X.K X.mg φ χ H l h → RVs X.K φ χ H ds vs → (∀ p, H p = none → H0 p = none) →
      Out X W l τ φ χ H (blt b h ds) (fun φ' χ' H' d _ => ∀ v, RVf b.fresh X.K H0 φ' χ' H' d v → Q v H') → r vs H Q
theorem m_blt {b : Blt} {es : EL} {e : Expr} {r : List V → Hp → VK → Prop} (hp : PE X e (tCB r (tMs X W l es))) (hk : BltOk X W l b r) : PE X e (tM X W l (.blt b es)) := by
  refine peImp hp fun τ H Q ⟨φ, χ, σ, h, rs, hr, o⟩ => ?_
  unfold evE at o
  refine tMs.of rs hr (o.bind.mono fun φ1 χ1 H1 ds h1 _ x1 _ g1 _ hr1 vs rvs => ?_)
  exact hk τ φ1 χ1 H1 H h1 ds vs Q hr1 rvs (fun p hn => x1.back hr1 hr hn) g1
theorem RVs.one {d : D} {vs : List V} (r : RVs K φ χ H [d] vs) : ∃ v, vs = [v] ∧ RV K φ χ H d v := by
  cases r with
  | cons a b => cases b; exact ⟨_, rfl, a⟩
theorem RVs.two {d e : D} {vs : List V} (r : RVs K φ χ H [d, e] vs) : ∃ v w, vs = [v, w] ∧ RV K φ χ H d v ∧ RV K φ χ H e w := by
  cases r with
  | cons a b =>
    obtain ⟨w, rfl, q⟩ := b.one
    exact ⟨_, w, rfl, a, q⟩
theorem ok_len : BltOk X W l .len (fun xs H Q => (∃ p ys, xs = [.ref p] ∧ (SqL X.K H p ys ∨ SqT X.K H p ys) ∧ Q (.int ys.length) H) ∨ (∃ z, xs = [.str z] ∧ z.length ≤ sizeLine ∧ Q (.int z.length) H)) := fun τ φ χ H H0 h ds vs Q hr rs fr o => by
  unfold blt b_len at o
  simp only at o
  split at o <;> first | exact o.elim | skip
  rename_i d hb
  obtain ⟨v, rfl, r⟩ := rs.one
  split at o
  · split at o
    · cases r
      exact .inr ⟨_, rfl, by assumption, Out.same0 (H0 := H0) hr (.int _) o⟩
    · exact o.elim
  · split at o
    · rename_i xs e
      obtain ⟨a, ws, rfl, q, s⟩ := r.seqOf hr e
      exact .inl ⟨a, ws, rfl, q, by rw [← s.length]; exact Out.same0 (H0 := H0) hr (.int _) o⟩
    · exact o.elim
theorem ok_abs : BltOk X W l .abs (fun xs H Q => ∃ i, xs = [.int i] ∧ Q (.int (if i < 0 then -i else i)) H) := fun τ φ χ H H0 h ds vs Q hr rs fr o => by
  unfold blt b_abs at o
  simp only at o
  split at o <;> first | exact o.elim | skip
  obtain ⟨v, rfl, r⟩ := rs.one
  cases r
  exact ⟨_, rfl, Out.same0 (H0 := H0) hr (.int _) o⟩
theorem ok_min2 : BltOk X W l .min2 (fun xs H Q => ∃ i j, xs = [.int i, .int j] ∧ Q (.int (if j < i then j else i)) H) := fun τ φ χ H H0 h ds vs Q hr rs fr o => by
  unfold blt b_min2 at o
  simp only at o
  split at o <;> first | exact o.elim | skip
  obtain ⟨v, w, rfl, r, r2⟩ := rs.two
  cases r; cases r2
  exact ⟨_, _, rfl, Out.same0 (H0 := H0) hr (.int _) o⟩
theorem ok_max2 : BltOk X W l .max2 (fun xs H Q => ∃ i j, xs = [.int i, .int j] ∧ Q (.int (if j > i then j else i)) H) := fun τ φ χ H H0 h ds vs Q hr rs fr o => by
  unfold blt b_max2 at o
  simp only at o
  split at o <;> first | exact o.elim | skip
  obtain ⟨v, w, rfl, r, r2⟩ := rs.two
  cases r; cases r2
  exact ⟨_, _, rfl, Out.same0 (H0 := H0) hr (.int _) o⟩
theorem RV.ints (hr : HR K mg φ χ H l h) {d : D} {v : V} {ns : List Int} (rv : RV K φ χ H d v) (e : (Mp.listOf h d).bind intsOf = some ns) : ∃ a, v = .ref a ∧ SqL K H a (ns.map V.int) := by
  obtain ⟨ds, e1, e2⟩ := Option.bind_eq_some_iff.mp e
  obtain ⟨a, vs, rfl, q, s⟩ := rv.listOf hr e1
  rw [s.intsOf e2] at q
  exact ⟨a, rfl, q⟩
theorem foldl_min_le (n : Int) (ns : List Int) : ns.foldl min n ∈ n :: ns ∧ ∀ y ∈ n :: ns, ns.foldl min n ≤ y := by
  induction ns generalizing n with
  | nil => simp
  | cons m ms ih =>
    obtain ⟨h1, h2⟩ := ih (min n m)
    rw [List.foldl_cons]
    constructor
    · rcases List.mem_cons.mp h1 with q | q
      · rw [q]
        rcases Int.le_total n m with c | c
        · rw [Int.min_eq_left c]; simp
        · rw [Int.min_eq_right c]; simp
      · simp [q]
    · intro y hy
      have h3 := h2 (min n m) (by simp)
      rcases List.mem_cons.mp hy with q | q
      · rw [q]; omega
      · rcases List.mem_cons.mp q with q | q
        · rw [q]; omega
        · exact h2 y (by simp [q])
theorem foldl_max_le (n : Int) (ns : List Int) : ns.foldl max n ∈ n :: ns ∧ ∀ y ∈ n :: ns, y ≤ ns.foldl max n := by
  induction ns generalizing n with
  | nil => simp
  | cons m ms ih =>
    obtain ⟨h1, h2⟩ := ih (max n m)
    rw [List.foldl_cons]
    constructor
    · rcases List.mem_cons.mp h1 with q | q
      · rw [q]
        rcases Int.le_total n m with c | c
        · rw [Int.max_eq_right c]; simp
        · rw [Int.max_eq_left c]; simp
      · simp [q]
    · intro y hy
      have h3 := h2 (max n m) (by simp)
      rcases List.mem_cons.mp hy with q | q
      · rw [q]; omega
      · rcases List.mem_cons.mp q with q | q
        · rw [q]; omega
        · exact h2 y (by simp [q])
theorem ok_minL : BltOk X W l .minL (rMin X.K) := fun τ φ χ H H0 h ds vs Q hr rs fr o => by
  unfold blt b_minL at o
  simp only at o
  split at o <;> first | exact o.elim | skip
  rename_i d hb
  obtain ⟨v, rfl, r⟩ := rs.one
  split at o
  · rename_i n ns e
    obtain ⟨a, rfl, q⟩ := r.ints hr e
    refine ⟨a, n :: ns, rfl, q, by simp, fun m hm hle => ?_⟩
    have z : m = ns.foldl min n := Int.le_antisymm (hle _ (foldl_min_le n ns).1) ((foldl_min_le n ns).2 _ hm)
    rw [z]
    exact Out.same0 (H0 := H0) hr (.int _) o
  · exact o.elim
theorem ok_maxL : BltOk X W l .maxL (rMax X.K) := fun τ φ χ H H0 h ds vs Q hr rs fr o => by
  unfold blt b_maxL at o
  simp only at o
  split at o <;> first | exact o.elim | skip
  rename_i d hb
  obtain ⟨v, rfl, r⟩ := rs.one
  split at o
  · rename_i n ns e
    obtain ⟨a, rfl, q⟩ := r.ints hr e
    refine ⟨a, n :: ns, rfl, q, by simp, fun m hm hle => ?_⟩
    have z : m = ns.foldl max n := Int.le_antisymm ((foldl_max_le n ns).2 _ hm) (hle _ (foldl_max_le n ns).1)
    rw [z]
    exact Out.same0 (H0 := H0) hr (.int _) o
  · exact o.elim
theorem ok_sum : BltOk X W l .sum (rSum X.K) := fun τ φ χ H H0 h ds vs Q hr rs fr o => by
  unfold blt b_sum at o
  simp only at o
  split at o <;> first | exact o.elim | skip
  rename_i d hb
  obtain ⟨v, rfl, r⟩ := rs.one
  split at o
  · rename_i ns e
    obtain ⟨a, rfl, q⟩ := r.ints hr e
    exact ⟨a, ns, rfl, q, Out.same0 (H0 := H0) hr (.int _) o⟩
  · exact o.elim
theorem RV.bls (hr : HR K mg φ χ H l h) {d : D} {v : V} {ns : List Bool} (rv : RV K φ χ H d v) (e : (Mp.listOf h d).bind blsOf = some ns) : ∃ a, v = .ref a ∧ SqL K H a (ns.map V.bl) := by
  obtain ⟨ds, e1, e2⟩ := Option.bind_eq_some_iff.mp e
  obtain ⟨a, vs, rfl, q, s⟩ := rv.listOf hr e1
  rw [s.blsOf e2] at q
  exact ⟨a, rfl, q⟩
theorem ok_all : BltOk X W l .all (rAll X.K) := fun τ φ χ H H0 h ds vs Q hr rs fr o => by
  unfold blt b_all at o
  simp only at o
  split at o <;> first | exact o.elim | skip
  rename_i d hb
  obtain ⟨v, rfl, r⟩ := rs.one
  split at o
  · rename_i ns e
    obtain ⟨a, rfl, q⟩ := r.bls hr e
    exact ⟨a, ns, rfl, q, Out.same0 (H0 := H0) hr (.bl _) o⟩
  · exact o.elim
theorem ok_any : BltOk X W l .any (rAny X.K) := fun τ φ χ H H0 h ds vs Q hr rs fr o => by
  unfold blt b_any at o
  simp only at o
  split at o <;> first | exact o.elim | skip
  rename_i d hb
  obtain ⟨v, rfl, r⟩ := rs.one
  split at o
  · rename_i ns e
    obtain ⟨a, rfl, q⟩ := r.bls hr e
    exact ⟨a, ns, rfl, q, Out.same0 (H0 := H0) hr (.bl _) o⟩
  · exact o.elim
theorem ok_tuple : BltOk X W l .tuple (fun xs H Q => ∃ p ys, xs = [.ref p] ∧ ((SqL X.K H p ys ∧ ∀ l, H l = none → Q (.ref l) (upd H l (.tup ys))) ∨ (SqT X.K H p ys ∧ Q (.ref p) H))) := fun τ φ χ H H0 h ds vs Q hr rs fr o => by
  unfold blt b_tuple at o
  simp only at o
  split at o <;> first | exact o.elim | skip
  rename_i d hb
  obtain ⟨v, rfl, r⟩ := rs.one
  split at o
  · rename_i xs e
    cases r with
    | @tup a ws _ t s =>
      cases e
      exact ⟨a, ws, rfl, .inr ⟨t.sq, Out.same0 (H0 := H0) hr (.tup t s) o⟩⟩
    | @lst a ws _ n t s =>
      cases e
      exact ⟨a, ws, rfl, .inl ⟨SqL.of t, fun p hp => Out.tup (H0 := H0) (fr := false) hr s hp o⟩⟩
    | ref q =>
      obtain ⟨ws, t, s⟩ := hr.getL q e
      exact ⟨_, ws, rfl, .inl ⟨SqL.of t, fun p hp => Out.tup (H0 := H0) (fr := false) hr s hp o⟩⟩
    | scr t =>
      cases e
      exact ⟨_, _, rfl, .inl ⟨t.sq, fun p hp => Out.tup (H0 := H0) (fr := false) hr (RVs.ints _) hp o⟩⟩
    | _ => cases e
  · exact o.elim
theorem ok_list : BltOk X W l .list (fun xs H Q => ∃ p ys, xs = [.ref p] ∧ (SqL X.K H p ys ∨ SqT X.K H p ys) ∧ ∀ l, H l = none → Q (.ref l) (upd H l (.lst ys))) := fun τ φ χ H H0 h ds vs Q hr rs fr o => by
  unfold blt b_list at o
  simp only at o
  split at o <;> first | exact o.elim | skip
  rename_i d hb
  obtain ⟨v, rfl, r⟩ := rs.one
  split at o
  · rename_i xs e
    obtain ⟨a, ws, rfl, q, s⟩ := r.seqOf hr e
    exact ⟨a, ws, rfl, q, fun p hp => Out.new (H0 := H0) (fr := true) hr s hp (fr p hp) o⟩
  · exact o.elim
theorem ins_perm (x : Int) : ∀ ys : List Int, (insI x ys).Perm (x :: ys)
  | [] => List.Perm.refl _
  | y :: ys => by
    unfold insI
    split
    · exact List.Perm.refl _
    · exact ((ins_perm x ys).cons y).trans (List.Perm.swap x y ys)
theorem ins_sorted (x : Int) : ∀ {ys : List Int}, ys.Pairwise (· ≤ ·) → (insI x ys).Pairwise (· ≤ ·)
  | [], _ => by simp [insI]
  | y :: ys, p => by
    unfold insI
    have h1 := List.pairwise_cons.mp p
    split
    · rename_i q
      refine List.pairwise_cons.mpr ⟨fun z hz => ?_, p⟩
      rcases List.mem_cons.mp hz with e | e
      · rw [e]; exact q
      · exact Int.le_trans q (h1.1 z e)
    · rename_i q
      refine List.pairwise_cons.mpr ⟨fun z hz => ?_, ins_sorted x h1.2⟩
      rcases List.mem_cons.mp ((ins_perm x ys).mem_iff.mp hz) with e | e
      · rw [e]; omega
      · exact h1.1 z e
theorem sort_perm : ∀ xs : List Int, (sortI xs).Perm xs
  | [] => List.Perm.refl _
  | x :: xs => (ins_perm x (sortI xs)).trans ((sort_perm xs).cons x)
theorem sort_sorted : ∀ xs : List Int, (sortI xs).Pairwise (· ≤ ·)
  | [] => List.Pairwise.nil
  | x :: xs => ins_sorted x (sort_sorted xs)
theorem sorted_eq {xs ys : List Int} (p : xs.Perm ys) (h1 : xs.Pairwise (· ≤ ·)) (h2 : ys.Pairwise (· ≤ ·)) : xs = ys :=
  p.eq_of_pairwise (fun a b _ _ q r => Int.le_antisymm q r) h1 h2
theorem ok_sorted : BltOk X W l .sorted (rSortedI X.K) := fun τ φ χ H H0 h ds vs Q hr rs fr o => by
  unfold blt b_sorted at o
  simp only at o
  split at o <;> first | exact o.elim | skip
  rename_i d hb
  obtain ⟨v, rfl, r⟩ := rs.one
  split at o
  · rename_i ns e
    obtain ⟨a, rfl, q⟩ := r.ints hr e
    refine ⟨a, ns, rfl, q, fun ns' p pm so hp => ?_⟩
    rw [sorted_eq (pm.trans (sort_perm ns).symm) so (sort_sorted ns)]
    exact Out.new (H0 := H0) (fr := true) hr (RVs.ints _) hp (fr p hp) o
  · exact o.elim
theorem ok_int : BltOk X W l .int (fun xs H Q => (∃ i, xs = [.int i] ∧ Q (.int i) H) ∨ ∃ k, xs = [.bl k] ∧ Q (.int (if k then 1 else 0)) H) := fun τ φ χ H H0 h ds vs Q hr rs fr o => by
  unfold blt b_int at o
  simp only at o
  split at o <;> first | exact o.elim | skip
  · obtain ⟨v, rfl, r⟩ := rs.one
    cases r
    exact .inr ⟨_, rfl, Out.same0 (H0 := H0) hr (.int _) o⟩
  · obtain ⟨v, rfl, r⟩ := rs.one
    cases r
    exact .inl ⟨_, rfl, Out.same0 (H0 := H0) hr (.int _) o⟩
theorem ok_str : BltOk X W l .str (fun xs H Q => ∃ i, xs = [.int i] ∧ i.natAbs.log2 < 1920 ∧ Q (.str (toString i)) H) := fun τ φ χ H H0 h ds vs Q hr rs fr o => by
  unfold blt b_str at o
  simp only at o
  split at o <;> first | exact o.elim | skip
  obtain ⟨v, rfl, r⟩ := rs.one
  cases r
  split at o
  · exact ⟨_, rfl, by assumption, Out.same0 (H0 := H0) hr (.str _) o⟩
  · exact o.elim
/-! repr of data -/
def noDct : PyData → Bool
  | .dict _ => false
  | _ => true
mutual
theorem flat_noDict : ∀ {d : D} {x : PyData}, d.flat = some x → x.hasDict = false
  | .non, _, e => by cases e; simp [PyData.hasDict]
  | .bl _, _, e => by cases e; simp [PyData.hasDict]
  | .int _, _, e => by cases e; simp [PyData.hasDict]
  | .str _, _, e => by cases e; simp [PyData.hasDict]
  | .tup ds, _, e => by
    unfold D.flat at e
    obtain ⟨xs, e1, rfl⟩ := Option.map_eq_some_iff.mp e
    simpa [PyData.hasDict] using flats_noDict e1
  | .lst ds, _, e => by
    unfold D.flat at e
    obtain ⟨xs, e1, rfl⟩ := Option.map_eq_some_iff.mp e
    simpa [PyData.hasDict] using flats_noDict e1
  | .ref _, _, e => by cases e
  | .scr _, _, e => by cases e
  | .exc _ _, _, e => by cases e
  | .fn _, _, e => by cases e
theorem flats_noDict : ∀ {d : List D} {x : List PyData}, D.flats d = some x → PyData.hasDictAll x = false
  | [], _, e => by cases e; simp [PyData.hasDictAll]
  | _ :: _, _, e => by
    obtain ⟨y, ys, rfl, e1, e2⟩ := flats_cons e
    simp [PyData.hasDictAll, flat_noDict e1, flats_noDict e2]
end
mutual
theorem py_noDict : ∀ {d : D} {x : PyData}, d.py h = some x → x.hasDict = false
  | .non, _, e => by cases e; simp [PyData.hasDict]
  | .bl _, _, e => by cases e; simp [PyData.hasDict]
  | .int _, _, e => by cases e; simp [PyData.hasDict]
  | .str _, _, e => by cases e; simp [PyData.hasDict]
  | .tup ds, _, e => by
    unfold D.py at e
    obtain ⟨xs, e1, rfl⟩ := Option.map_eq_some_iff.mp e
    simpa [PyData.hasDict] using pys_noDict e1
  | .lst ds, _, e => by
    unfold D.py at e
    obtain ⟨xs, e1, rfl⟩ := Option.map_eq_some_iff.mp e
    simpa [PyData.hasDict] using pys_noDict e1
  | .ref _, _, e => by
    unfold D.py at e
    obtain ⟨ds, e1, e2⟩ := Option.bind_eq_some_iff.mp e
    obtain ⟨xs, e3, rfl⟩ := Option.map_eq_some_iff.mp e2
    simpa [PyData.hasDict] using flats_noDict e3
  | .scr _, _, e => by cases e
  | .exc _ _, _, e => by cases e
  | .fn _, _, e => by cases e
theorem pys_noDict : ∀ {d : List D} {x : List PyData}, D.pys h d = some x → PyData.hasDictAll x = false
  | [], _, e => by cases e; simp [PyData.hasDictAll]
  | _ :: _, _, e => by
    obtain ⟨y, ys, rfl, e1, e2⟩ := pys_cons e
    simp [PyData.hasDictAll, py_noDict e1, pys_noDict e2]
end
end
end Mp

set_option maxRecDepth 100000
/-! Mp2g: repr, types, methods, stores. -/
namespace Mp
open PySem PySem.Spec PyProof.Rows L2

section
variable {X : Cx} {W : WX} {l : List Nat} {τ : L2.St} {φ φ' φ1 : List Addr} {χ χ' χ1 : Ads} {H H' H1 H0 : Hp} {h h' : Hh} {α β : Type} {K : PySem.W.Frag} {mg : Str → Option Value}

def rReprD (K : PySem.W.Frag) : List V → Hp → VK → Prop := fun xs H Q => ∃ v x, xs = [v] ∧ Dp K H v x ∧ x.showable = true ∧ x.hasDict = false ∧ x.shown.length ≤ sizeLine ∧ x.depth ≤ 64 ∧ Q (.str x.shown) H
theorem call_reprD (hg : X.A.guards = some []) (hu : X.A.units + 65 < cLine) : CallR X (.builtin "repr") (rReprD X.K) := by
  intro pins s σ H xs us Q I r hh
  obtain ⟨v, x, rfl, dp, c1, c2, c3, c4, q⟩ := hh
  obtain ⟨u, rfl, ru⟩ := vals1 r
  obtain ⟨as, rd⟩ := Dp.reads I x v u dp ru
  have fin : ∀ (h' : Heap) (t : Tok) (tk : Nat), (∀ b o, s.heap.get? b = some o → h'.get? b = some o) → EP X pins σ Q (.str x.shown t) { s with heap := h', toks := tk } := fun h' t tk hk => ⟨.str x.shown, H, I.kept hk, ⟨_, rfl⟩, q⟩
  cases ru' : u with
  | ref a =>
    subst ru'
    exact PySem.repr_of_reads' rd c1 (PyData.noDict_hsm c2) hg (by omega) (fun _ _ e => e) (fun h' t tk hk => fin h' t tk hk) c3
  | none =>
    subst ru'
    cases rd
    exact PySem.P.repr_of_none (by have := fin s.heap s.toks (s.toks + 1) (fun _ _ e => e); rw [PyData.shown_none] at this; exact this)
  | bool b =>
    subst ru'
    cases rd
    exact PySem.P.repr_of_bool (by have := fin s.heap s.toks (s.toks + 1) (fun _ _ e => e); rw [PyData.shown_bool] at this; exact this)
  | int i t =>
    subst ru'
    cases rd
    have z : i.natAbs.log2 < 1920 := by simpa [PyData.showable] using c1
    exact PySem.P.repr_of_int z (by have := fin s.heap s.toks (s.toks + 1) (fun _ _ e => e); rw [PyData.shown_int] at this; exact this)
  | str y t =>
    subst ru'
    cases rd
    rw [PyData.shown_str] at c3
    exact PySem.P.repr_of_str (by have := fin s.heap s.toks (s.toks + 1) (fun _ _ e => e); rw [PyData.shown_str] at this; exact this) c3
  | _ => subst ru'; cases rd
theorem ok_repr : BltOk X W l .repr (rReprD X.K) := fun τ φ χ H H0 h ds vs Q hr rs fr o => by
  unfold blt b_repr at o
  simp only at o
  split at o <;> first | exact o.elim | skip
  obtain ⟨v, rfl, r⟩ := rs.one
  split at o
  · rename_i x e
    split at o
    · rename_i hs
      simp only [Bool.and_eq_true, decide_eq_true_eq] at hs
      exact ⟨v, x, rfl, r.py hr e, hs.1.1, py_noDict e, hs.1.2, hs.2, Out.same0 (H0 := H0) hr (.str _) o⟩
    · exact o.elim
  · exact o.elim

/-! ### isinstance -/
theorem RV.ty (hr : HR K mg φ χ H l h) {d : D} {v : V} {t : String} (r : RV K φ χ H d v) (e : dTy h d = some t) : TyX K H v (.type t) := by
  cases r with
  | non => cases e; exact .base .non
  | bl b => cases e; exact .base (.bl b)
  | int b => cases e; exact .base (.int b)
  | str b => cases e; exact .base (.str b)
  | tup t s =>
    cases e
    rcases t with t | ⟨o, its, n, k, c, _⟩
    · exact .base (.tup t)
    · exact .kTuple k c
  | lst n t s => cases e; exact .base (.lst t)
  | ref q =>
    obtain ⟨ds, e1, rfl⟩ := Option.map_eq_some_iff.mp e
    obtain ⟨vs, t, _⟩ := hr.getL q e1
    exact .base (.lst t)
  | scr s => cases e
/-- the built-in classes' answers -/
theorem kit_all : ∀ a ∈ ["NoneType", "bool", "int", "str", "tuple", "list"], ∀ t ∈ [Ty.int, .bool, .tuple, .list, .str], kitB a (tyName t) = some (tyIs t a) := by decide +kernel
def bTy : Ty → Bool
  | .own _ => false
  | _ => true
theorem dTy_mem {d : D} {a : String} (e : dTy h d = some a) : a ∈ ["NoneType", "bool", "int", "str", "tuple", "list"] := by
  cases d <;> first | (cases e; done) | (cases e; simp; done) | skip
  obtain ⟨ds, _, rfl⟩ := Option.map_eq_some_iff.mp e
  simp
theorem bTy_mem {t : Ty} (e : bTy t = true) : t ∈ [Ty.int, .bool, .tuple, .list, .str] := by
  cases t <;> first | (cases e; done) | simp
theorem isTy_b {d : D} {t : Ty} {b : Bool} (ht : bTy t = true) (e : isTy h d t = some b) : ∃ a, dTy h d = some a ∧ PySem.W.kitOne K (.type a) (.type (tyName t)) = some b := by
  have e' : (dTy h d).map (tyIs t) = some b := by cases t <;> first | exact e | cases ht
  obtain ⟨a, e1, rfl⟩ := Option.map_eq_some_iff.mp e'
  exact ⟨a, e1, kit_ty (kit_all a (dTy_mem e1) t (bTy_mem ht))⟩
theorem m_isin1 {a : Expr} {ea : E} {t : Ty} {p p2 pos : Pos} (ht : bTy t = true) (hg : Gl X "isinstance") (hm : X.mg "isinstance" = none) (hc : PE X (.Name (Str.ofString (tyName t)) p2) (tC (.ty (tyName t))))
    (ha : PE X a (tM X W l ea)) (hst : starEach [a, .Name (Str.ofString (tyName t)) p2] X.env = (false, eval a X.env) :: starEach [.Name (Str.ofString (tyName t)) p2] X.env) :
    PE X (.Call (.Name "isinstance" p) [a, .Name (Str.ofString (tyName t)) p2] [] pos) (tM X W l (.isin ea [t])) := by
  refine peImp (pe_callB call_isi hg hm (by decide +kernel) (pa_cons ha (pa_cons hc pa_nil) hst) (by decide) (by decide) hst) fun τ H Q ⟨φ, χ, σ, h, rs, hr, o⟩ => ?_
  unfold evE at o
  refine tM.to rs hr (o.bind.mono fun φ1 χ1 H1 d1 h1 _ x1 _ g1 _ hr1 v1 rv1 => ?_)
  unfold isinV isAny isAny at g1
  cases e : isTy h1 d1 t with
  | none => rw [e] at g1; exact g1.elim
  | some b =>
    obtain ⟨a', e1, e2⟩ := isTy_b (K := X.K) ht e
    have q : Q (.bl b) H1 := by
      rw [e] at g1
      cases b <;> exact Out.same0 (H0 := H) hr1 (.bl _) g1
    exact ⟨v1, .ty (tyName t), _, _, b, rfl, .ty _, rv1.ty hr1 e1, e2, q⟩
/-- a tuple of classes -/
def clsL : List Ty → List Pos → List Expr
  | t :: ts, p :: ps => .Name (Str.ofString (tyName t)) p :: clsL ts ps
  | _, _ => []
def tCls : List Ty → TA
  | [] => tNil
  | t :: ts => tCons (tC (.ty (tyName t))) (tCls ts)
theorem pa_cls : ∀ (ts : List Ty) (ps : List Pos), ts.length = ps.length → (∀ t ∈ ts, ∀ p, PE X (.Name (Str.ofString (tyName t)) p) (tC (.ty (tyName t)))) → PA X (clsL ts ps) (tCls ts)
  | [], _, _, _ => pa_nil
  | _ :: _, [], e, _ => nomatch e
  | t :: ts, p :: ps, e, k => pa_cons (k t (by simp) p) (pa_cls ts ps (by simpa using e) fun t h => k t (by simp [h]))
theorem tCls_run : ∀ (ts : List Ty) {τ : L2.St} {H : Hp} {Q : List V → Hp → Prop}, Q (ts.map fun t => V.ty (tyName t)) H → tCls ts τ H Q
  | [], _, _, _, q => q
  | t :: ts, _, H, Q, q => tCls_run ts (Q := fun xs H2 => Q (V.ty (tyName t) :: xs) H2) q
theorem cls_paired : ∀ ts : List Ty, Paired ClsV (ts.map fun t => V.ty (tyName t)) (ts.map fun t => Value.type (tyName t))
  | [] => .nil
  | t :: ts => .cons (.ty _) (cls_paired ts)
theorem isAny_b {d : D} : ∀ {ts : List Ty} {b : Bool}, (∀ t ∈ ts, bTy t = true) → ts ≠ [] → isAny h d ts = some b → ∃ a, dTy h d = some a ∧ PySem.W.kitAny K (.type a) (ts.map fun t => Value.type (tyName t)) = some b
  | [], _, _, n, _ => absurd rfl n
  | t :: ts, b, ht, _, e => by
    unfold isAny at e
    split at e
    · rename_i e1
      cases e
      obtain ⟨a, q1, q2⟩ := isTy_b (K := K) (ht t (by simp)) e1
      exact ⟨a, q1, kitAny_cons q2 (fun z => nomatch z) fun _ => rfl⟩
    · rename_i e1
      obtain ⟨a, q1, q2⟩ := isTy_b (K := K) (ht t (by simp)) e1
      by_cases n : ts = []
      · subst n
        cases e
        exact ⟨a, q1, kitAny_cons q2 (fun _ => kitAny_nil) fun z => nomatch z⟩
      · obtain ⟨a2, q3, q4⟩ := isAny_b (fun t h => ht t (by simp [h])) n e
        rw [q1] at q3
        cases q3
        exact ⟨a, q1, kitAny_cons q2 (fun _ => q4) fun z => nomatch z⟩
    · cases e
theorem m_isinT {a : Expr} {ea : E} {ts : List Ty} {ps : List Pos} {k : Nat} {p p2 pos : Pos} (hl : ts.length = ps.length) (hn : ts ≠ []) (ht : ∀ t ∈ ts, bTy t = true) (hg : Gl X "isinstance") (hm : X.mg "isinstance" = none)
    (hc : ∀ t ∈ ts, ∀ p, PE X (.Name (Str.ofString (tyName t)) p) (tC (.ty (tyName t)))) (ha : PE X a (tM X W l ea)) (hz : ts.length ≤ sizeLine)
    (hst : starEach [a, .Tuple (clsL ts ps) k p2] X.env = (false, eval a X.env) :: starEach [.Tuple (clsL ts ps) k p2] X.env) :
    PE X (.Call (.Name "isinstance" p) [a, .Tuple (clsL ts ps) k p2] [] pos) (tM X W l (.isin ea ts)) := by
  refine peImp (pe_callB call_isiT hg hm (by decide +kernel) (pa_cons ha (pa_cons (pe_tup (pa_cls ts ps hl hc)) pa_nil) hst) (by decide) (by decide) hst) fun τ H Q ⟨φ, χ, σ, h, rs, hr, o⟩ => ?_
  unfold evE at o
  refine tM.to rs hr (o.bind.mono fun φ1 χ1 H1 d1 h1 _ x1 _ g1 _ hr1 v1 rv1 => ?_)
  refine tCls_run ts ⟨by rw [List.length_map]; exact hz, fun q hq => ?_⟩
  unfold isinV at g1
  cases e : isAny h1 d1 ts with
  | none => rw [e] at g1; exact g1.elim
  | some b =>
    rw [e] at g1
    obtain ⟨a', e1, e2⟩ := isAny_b (K := X.K) ht hn e
    have hr2 := hr1.newT (vs := ts.map fun t => V.ty (tyName t)) hq
    have x2 : Ext φ1 χ1 H1 φ1 χ1 (upd H1 q (.tup (ts.map fun t => V.ty (tyName t)))) := .newT hq
    exact ⟨v1, q, _, _, _, b, rfl, upd_same, cls_paired ts, (rv1.ext x2).ty hr2 e1, e2, Out.same0 (H0 := H) hr2 (.bl _) (Out.later x2 g1)⟩

/-! ### stores into objects of ours -/
theorem stOk_all {n : Nat} {d : D} (e : stOk l n d = true) : ∀ b ∈ l, b ≤ n ∨ d.und b = true := by
  unfold stOk at e
  intro b hb
  simpa using List.all_eq_true.mp e b hb
theorem getL_at {n : Nat} {ds : List D} (e : getL h n = some ds) : h[n]? = some (.lst ds) := by
  unfold getL at e
  split at e
  · rename_i q; cases e; exact q
  · cases e
/-- one list of ours is written -/
theorem HR.wr {n : Nat} {a : Addr} {ds es : List D} {vs ws : List V} (hr : HR K mg φ χ H l h) (e : φ[n]? = some a) (g : Mp.getL h n = some ds) (ha : H a = some (.lst vs)) (rs : RVs K φ χ H es ws)
    (st : ∀ b ∈ l, b ≤ n ∨ D.unds b es = true) : Ext φ χ H φ χ (upd H a (.lst ws)) ∧ HR K mg φ χ (upd H a (.lst ws)) l (h.set n (.lst es)) := by
  have hx : χ a := hr.sub a (List.mem_of_getElem? e)
  have x : Ext φ χ H φ χ (upd H a (.lst ws)) := by
    refine ⟨⟨⟨[], by simp⟩, fun _ q => q, fun _ q z => absurd q z, fun b o nb ho => ?_, fun b xs ho => ?_, fun b o xs ho => ?_⟩, fun b o nb ho => ?_, fun a q n => absurd q n⟩
    · rw [upd_ne (fun z => nb (by rw [z]; exact hx))]; exact ho
    · rw [upd_ne (fun z => by rw [z, ha] at ho; cases ho)]; exact ho
    · rw [upd_ne (fun z => by rw [z, ha] at ho; cases ho)]; exact ho
    · rw [upd_ne (fun z => nb (by rw [z]; exact List.mem_of_getElem? e))]; exact ho
  have hn : n < h.length := (List.getElem?_eq_some_iff.mp (getL_at g)).1
  refine ⟨x, by rw [List.length_set]; exact hr.len, hr.nd, hr.sub, fun m b o e1 e2 => ?_, fun b hb m o hm e2 => ?_, fun b hb => by rw [List.length_set]; exact hr.top b hb, fun b hb => ?_⟩
  · by_cases hmn : n = m
    · subst hmn
      rw [e] at e1; cases e1
      rw [List.getElem?_set_self hn] at e2; cases e2
      exact .lst upd_same (rs.ext x)
    · rw [List.getElem?_set_ne hmn] at e2
      have nab : b ≠ a := fun z => by
        subst z
        obtain ⟨l1, q1⟩ := List.getElem?_eq_some_iff.mp e
        obtain ⟨l2, q2⟩ := List.getElem?_eq_some_iff.mp e1
        exact hmn ((List.getElem_inj hr.nd).mp (q1.trans q2.symm))
      exact (hr.ob m b o e1 e2).ext x (upd_ne nab)
  · by_cases hmn : n = m
    · subst hmn
      rw [List.getElem?_set_self hn] at e2; cases e2
      rcases st b hb with q | q
      · omega
      · exact q
    · rw [List.getElem?_set_ne hmn] at e2
      exact hr.lim b hb m o hm e2
  · by_cases z : b = a
    · rw [z, upd_same]; simp
    · rw [upd_ne z]; exact hr.ch b hb

/-! ### methods of lists -/
/-- what a method's rule asks is met: o the receiver -/
def BmOk (X : Cx) (W : WX) (l : List Nat) (m : Bm) (r : V → List V → Hp → VK → Prop) : Prop := ∀ (τ : L2.St) (φ : List Addr) (χ : Ads) (H H0 : Hp) (h : Hh) (o : D) (v : V) (ds : List D) (vs : List V) (Q : VK), HR X.K X.mg φ χ H l h → RV X.K φ χ H o v → RVs X.K φ χ H ds vs →
      Out X W l τ φ χ H (bm m l h o ds) (fun φ' χ' H' d _ => ∀ v, RVf false X.K H0 φ' χ' H' d v → Q v H') → r v vs H Q
theorem RV.recv (hr : HR K mg φ χ H l h) {d : D} {v : V} {t : String} (r : RV K φ χ H d v) (e : Mp.recv t h d = true) : tyV K t v H := by
  unfold Mp.recv at e
  split at e
  · cases r; rfl
  · cases r with
    | ref q =>
      obtain ⟨ds, e1⟩ := Option.isSome_iff_exists.mp e
      obtain ⟨vs, z, _⟩ := hr.getL q e1
      exact .inl ⟨rfl, vs, SqL.of z⟩
  · cases r with
    | lst n z s => exact .inl ⟨rfl, _, SqL.of z⟩
  · cases e
theorem tM.bm {m : Bm} {ea : E} {es : EL} {r : V → List V → Hp → VK → Prop} (hk : BmOk X W l m r) : ∀ τ H Q, tM X W l (.bm m ea es) τ H Q → tM X W l ea τ H fun x H1 => tyV X.K (bmTy m) x H1 ∧ tMs X W l es τ H1 fun xs H2 => r x xs H2 Q := by
  intro τ H Q ⟨φ, χ, σ, h, rs, hr, o⟩
  unfold evE at o
  refine tM.to rs hr (o.bind.mono fun φ1 χ1 H1 d1 h1 _ x1 _ g1 _ hr1 v1 rv1 => ?_)
  split at g1
  · rename_i hc
    refine ⟨rv1.recv hr1 hc, ?_⟩
    refine tMs.of (rs.ext x1) hr1 (g1.bind.mono fun φ2 χ2 H2 ds h2 _ x2 _ g2 _ hr2 vs rvs => ?_)
    exact hk τ φ2 χ2 H2 H h2 d1 v1 ds vs Q hr2 (rv1.ext x2) rvs g2
  · exact g1.elim
theorem m_bm {m : Bm} {a : Expr} {ea : E} {as : List Expr} {es : EL} {e : Expr} {r : V → List V → Hp → VK → Prop} (hp : PE X e (tBM X.K (bmTy m) r (tM X W l ea) (tMs X W l es))) (hk : BmOk X W l m r) : PE X e (tM X W l (.bm m ea es)) :=
  peImp hp (tM.bm hk)
theorem m_bm0 {m : Bm} {a : Expr} {ea : E} {e : Expr} {r : V → List V → Hp → VK → Prop} (hp : PE X e (tBM0 X.K (bmTy m) r (tM X W l ea))) (hk : BmOk X W l m r) : PE X e (tM X W l (.bm m ea .nil)) := by
  refine peImp hp fun τ H Q ⟨φ, χ, σ, h, rs, hr, o⟩ => ?_
  unfold evE at o
  refine tM.to rs hr (o.bind.mono fun φ1 χ1 H1 d1 h1 _ x1 _ g1 _ hr1 v1 rv1 => ?_)
  split at g1
  · rename_i hc
    refine ⟨rv1.recv hr1 hc, ?_⟩
    unfold evL at g1
    exact hk τ φ1 χ1 H1 H h1 d1 v1 [] [] Q hr1 rv1 .nil g1
  · exact g1.elim
theorem und_lst {b : Nat} {ds : List D} : (D.lst ds).und b = D.unds b ds := by simp [D.und]
theorem unds_append {b : Nat} : ∀ {ds es : List D}, D.unds b (ds ++ es) = (D.unds b ds && D.unds b es)
  | [], es => by simp [D.unds]
  | d :: ds, es => by simp [D.unds, unds_append (ds := ds), Bool.and_assoc]
theorem unds_all {b : Nat} : ∀ {ds : List D}, D.unds b ds = true ↔ ∀ d ∈ ds, d.und b = true
  | [] => by simp [D.unds]
  | d :: ds => by simp [D.unds, unds_all (ds := ds)]
theorem HR.limL (hr : HR K mg φ χ H l h) {n : Nat} {ds : List D} (g : Mp.getL h n = some ds) : ∀ b ∈ l, b ≤ n ∨ D.unds b ds = true := fun b hb => by
  by_cases q : n < b
  · exact .inr (hr.lim b hb n _ q (getL_at g))
  · exact .inl (by omega)
theorem ok_append : BmOk X W l .append rAppend := fun τ φ χ H H0 h o v ds vs Q hr r rs oo => by
  unfold bm m_append at oo
  simp only at oo
  split at oo <;> first | exact oo.elim | skip
  obtain ⟨w, rfl, rw⟩ := rs.one
  cases r with
  | ref q =>
    split at oo
    · rename_i xs g
      split at oo
      · rename_i hc
        have hc := and_true hc
        obtain ⟨ws, ha, s⟩ := hr.getL q g
        have sw := s.append (RVs.cons rw .nil)
        obtain ⟨x, hr2⟩ := hr.wr q g ha sw fun b hb => by
          rcases stOk_all hc.1 b hb with z | z
          · exact .inl z
          · rcases hr.limL g b hb with y | y
            · exact .inl y
            · exact .inr (by rw [unds_append, y]; simp [D.unds, z])
        exact ⟨_, ws, w, rfl, rfl, ha, by rw [← s.length]; exact of_decide_eq_true hc.2, Out.same0 (H0 := H0) hr2 .non (Out.later x oo)⟩
      · exact oo.elim
    · exact oo.elim
theorem ok_extend : BmOk X W l .extend rExtend := fun τ φ χ H H0 h o v ds vs Q hr r rs oo => by
  unfold bm m_extend at oo
  simp only at oo
  split at oo <;> first | exact oo.elim | skip
  obtain ⟨w, rfl, rw⟩ := rs.one
  cases r with
  | ref q =>
    split at oo
    · rename_i xs ys g g2
      split at oo
      · rename_i hc
        have hc := and_true hc
        obtain ⟨ws, ha, s⟩ := hr.getL q g
        obtain ⟨b, us, rfl, hb, s2⟩ := rw.lstOf hr g2
        have sw := s.append s2
        obtain ⟨x, hr2⟩ := hr.wr q g ha sw fun b hb => by
          rcases stOk_all hc.1 b hb with z | z
          · exact .inl z
          · rcases hr.limL g b hb with y | y
            · exact .inl y
            · exact .inr (by rw [unds_append, y, ← und_lst, z]; rfl)
        exact ⟨_, b, ws, us, rfl, rfl, ha, hb, by rw [← s.length, ← s2.length]; exact of_decide_eq_true hc.2, Out.same0 (H0 := H0) hr2 .non (Out.later x oo)⟩
      · exact oo.elim
    · exact oo.elim
theorem ok_insert : BmOk X W l .insert (fun x vs H Q => ∃ (l : Addr) (xs : List V) (i : Int) (y : V), x = .ref l ∧ vs = [.int i, y] ∧ H l = some (.lst xs) ∧ xs.length < sizeLine ∧ 0 ≤ i ∧ i < 2 ^ 63 ∧
    Q .non (upd H l (.lst (xs.take i.toNat ++ [y] ++ xs.drop i.toNat)))) := fun τ φ χ H H0 h o v ds vs Q hr r rs oo => by
  unfold bm m_insert at oo
  simp only at oo
  split at oo <;> first | exact oo.elim | skip
  rename_i n i d
  obtain ⟨w1, w, rfl, r1, rw⟩ := rs.two
  cases r1
  cases r with
  | ref q =>
    split at oo
    · rename_i xs g
      split at oo
      · rename_i hc
        have hc := and_true hc
        have hd := of_decide_eq_true hc.2
        obtain ⟨ws, ha, s⟩ := hr.getL q g
        have sw := ((s.take i.toNat).append (RVs.cons rw .nil)).append (s.drop i.toNat)
        obtain ⟨x, hr2⟩ := hr.wr q g ha sw fun b hb => by
          rcases stOk_all hc.1 b hb with z | z
          · exact .inl z
          · rcases hr.limL g b hb with y | y
            · exact .inl y
            · refine .inr (unds_all.mpr fun d hd => ?_)
              rcases List.mem_append.mp hd with k | k
              · rcases List.mem_append.mp k with k | k
                · exact unds_all.mp y d (List.mem_of_mem_take k)
                · rw [List.mem_singleton.mp k]; exact z
              · exact unds_all.mp y d (List.mem_of_mem_drop k)
        exact ⟨_, ws, _, w, rfl, rfl, ha, by rw [← s.length]; exact hd.1, hd.2.1, hd.2.2, Out.same0 (H0 := H0) hr2 .non (Out.later x oo)⟩
      · exact oo.elim
    · exact oo.elim
theorem RVs.dropLast : ∀ {ds : List D} {vs : List V}, RVs K φ χ H ds vs → RVs K φ χ H ds.dropLast vs.dropLast := fun {ds vs} r => by
  rw [List.dropLast_eq_take, List.dropLast_eq_take, r.length]
  exact r.take _
theorem ok_pop : BmOk X W l .pop rPop := fun τ φ χ H H0 h o v ds vs Q hr r rs oo => by
  unfold bm m_pop at oo
  simp only at oo
  split at oo <;> first | exact oo.elim | skip
  cases rs
  cases r with
  | ref q =>
    split at oo
    · rename_i xs g
      split at oo
      · rename_i y gy
        obtain ⟨ws, ha, s⟩ := hr.getL q g
        obtain ⟨u, e1, ru⟩ := s.get gy
        obtain ⟨x, hr2⟩ := hr.wr q g ha s.dropLast fun b hb => by
          rcases hr.limL g b hb with y | y
          · exact .inl y
          · exact .inr (unds_all.mpr fun d hd => unds_all.mp y d (List.dropLast_subset _ hd))
        exact ⟨_, ws, u, rfl, rfl, ha, by rw [← s.length]; exact e1, Out.same0 (H0 := H0) hr2 (ru.ext x) (Out.later x oo)⟩
      · exact oo.elim
    · exact oo.elim
theorem ok_popAt : BmOk X W l .popAt rPopAt := fun τ φ χ H H0 h o v ds vs Q hr r rs oo => by
  unfold bm m_popAt at oo
  simp only at oo
  split at oo <;> first | exact oo.elim | skip
  obtain ⟨w1, rfl, r1⟩ := rs.one
  cases r1
  cases r with
  | ref q =>
    split at oo
    · rename_i xs g
      split at oo
      · rename_i k gk
        split at oo
        · rename_i y gy
          split at oo <;> first | exact oo.elim | skip
          rename_i hi
          obtain ⟨ws, ha, s⟩ := hr.getL q g
          obtain ⟨u, e1, ru⟩ := s.get gy
          obtain ⟨x, hr2⟩ := hr.wr q g ha (s.erase k) fun b hb => by
            rcases hr.limL g b hb with y | y
            · exact .inl y
            · exact .inr (unds_all.mpr fun d hd => unds_all.mp y d (List.mem_of_mem_eraseIdx hd))
          exact ⟨_, ws, _, k, u, rfl, rfl, ha, hi.1, hi.2, by rw [← s.length]; exact (ixN_seq (by rw [ixAt_eq]; exact gk)).1, e1, Out.same0 (H0 := H0) hr2 (ru.ext x) (Out.later x oo)⟩
        · exact oo.elim
      · exact oo.elim
    · exact oo.elim
theorem ok_reverse : BmOk X W l .reverse rReverse := fun τ φ χ H H0 h o v ds vs Q hr r rs oo => by
  unfold bm m_reverse at oo
  simp only at oo
  split at oo <;> first | exact oo.elim | skip
  cases rs
  cases r with
  | ref q =>
    split at oo
    · rename_i xs g
      obtain ⟨ws, ha, s⟩ := hr.getL q g
      obtain ⟨x, hr2⟩ := hr.wr q g ha s.rev fun b hb => by
        rcases hr.limL g b hb with y | y
        · exact .inl y
        · exact .inr (unds_all.mpr fun d hd => unds_all.mp y d (List.mem_reverse.mp hd))
      exact ⟨_, ws, rfl, rfl, ha, Out.same0 (H0 := H0) hr2 .non (Out.later x oo)⟩
    · exact oo.elim
end
end Mp

set_option maxRecDepth 100000
/-! Mp2h: list(range(..)), tuple(range(..)). -/
namespace Mp
open PySem PySem.Spec PyProof.Rows L2

section
variable {X : Cx} {W : WX} {l : List Nat} {τ : L2.St} {φ φ' φ1 : List Addr} {χ χ' χ1 : Ads} {H H' H1 H0 : Hp} {h h' : Hh} {K : PySem.W.Frag}
theorem tM.bltR {b : Blt} {es : EL} {r : List V → Hp → VK → Prop} (hk : BltOk X W l b r) : ∀ τ H Q, tM X W l (.blt b es) τ H Q → tCB r (tMs X W l es) τ H Q := by
  intro τ H Q ⟨φ, χ, σ, h, rs, hr, o⟩
  unfold evE at o
  refine tMs.of rs hr (o.bind.mono fun φ1 χ1 H1 ds h1 _ x1 _ g1 _ hr1 vs rvs => ?_)
  exact hk τ φ1 χ1 H1 H h1 ds vs Q hr1 rvs (fun p hn => x1.back hr1 hr hn) g1
theorem tMs.run1 {ea : E} {Q : List V → Hp → Prop} (q : tMs X W l (.cons ea .nil) τ H Q) : tM X W l ea τ H fun v H1 => Q [v] H1 := by
  obtain ⟨φ, χ, σ, h, rs, hr, o⟩ := q
  unfold evL evL at o
  refine tM.to rs hr (o.bind.mono fun φ1 χ1 H1 d1 h1 _ x1 _ g1 _ hr1 v1 rv1 => ?_)
  have g1 : Out X W l τ φ1 χ1 H1 (R.ok [d1] h1) _ := g1
  exact g1 _ _ _ .refl hr1 [v1] (.cons rv1 .nil)
theorem tMs.run2 {ea eb : E} {Q : List V → Hp → Prop} (q : tMs X W l (.cons ea (.cons eb .nil)) τ H Q) : tM X W l ea τ H fun v H1 => tM X W l eb τ H1 fun w H2 => Q [v, w] H2 := by
  obtain ⟨φ, χ, σ, h, rs, hr, o⟩ := q
  unfold evL evL evL at o
  refine tM.to rs hr (o.bind.mono fun φ1 χ1 H1 d1 h1 _ x1 _ g1 _ hr1 v1 rv1 => ?_)
  refine tM.to (rs.ext x1) hr1 (g1.bind.bind.mono fun φ2 χ2 H2 d2 h2 _ x2 _ g2 _ hr2 v2 rv2 => ?_)
  have g2 : Out X W l τ φ2 χ2 H2 (R.ok [d2] h2) _ := g2
  have g3 := g2 _ _ _ .refl hr2
  have g3 : Out X W l τ φ2 χ2 H2 (R.ok [d1, d2] h2) _ := g3
  exact g3 _ _ _ .refl hr2 [v1, v2] (.cons (rv1.ext x2) (.cons rv2 .nil))
theorem rgOk_of' {a b : Int} (h : rgOk a b = true) : RgOk a b := by
  unfold rgOk at h
  have := of_decide_eq_true h
  exact ⟨this.1, this.2.1, this.2.2.1, this.2.2.2.1, by omega⟩
theorem rg_rvs (a b : Int) : RVs K φ χ H (Mp.rg a b) (L2.rgV a b) := by
  have key : ∀ ns : List Nat, RVs K φ χ H (ns.map fun (i : Nat) => D.int (a + (i : Int))) (ns.map fun i => V.int (a + (i : Nat))) := fun ns => by
    induction ns with
    | nil => exact .nil
    | cons n ns ih => exact .cons (.int _) ih
  exact key _
def rLst1 : List V → Hp → VK → Prop := fun vs H Q => ∃ n, vs = [.int n] ∧ RgOk 0 n ∧ ∀ q, H q = none → Q (.ref q) (upd H q (.lst (L2.rgV 0 n)))
def rLst2 : List V → Hp → VK → Prop := fun vs H Q => ∃ a b, vs = [.int a, .int b] ∧ RgOk a b ∧ ∀ q, H q = none → Q (.ref q) (upd H q (.lst (L2.rgV a b)))
def rTup1 : List V → Hp → VK → Prop := fun vs H Q => ∃ n, vs = [.int n] ∧ RgOk 0 n ∧ ∀ q, H q = none → Q (.ref q) (upd H q (.tup (L2.rgV 0 n)))
def rTup2 : List V → Hp → VK → Prop := fun vs H Q => ∃ a b, vs = [.int a, .int b] ∧ RgOk a b ∧ ∀ q, H q = none → Q (.ref q) (upd H q (.tup (L2.rgV a b)))
theorem ok_listR1 : BltOk X W l .listR1 rLst1 := fun τ φ χ H H0 h ds vs Q hr rs fr o => by
  unfold blt b_listR1 at o
  simp only at o
  split at o <;> first | exact o.elim | skip
  split at o <;> first | exact o.elim | skip
  rename_i n hk
  obtain ⟨v, rfl, r⟩ := rs.one
  cases r
  exact ⟨n, rfl, rgOk_of' hk, fun q hq => Out.new hr (rg_rvs _ _) hq (fr q hq) o⟩
theorem ok_listR2 : BltOk X W l .listR2 rLst2 := fun τ φ χ H H0 h ds vs Q hr rs fr o => by
  unfold blt b_listR2 at o
  simp only at o
  split at o <;> first | exact o.elim | skip
  split at o <;> first | exact o.elim | skip
  rename_i hk
  obtain ⟨v, w, rfl, r, r2⟩ := rs.two
  cases r; cases r2
  exact ⟨_, _, rfl, rgOk_of' hk, fun q hq => Out.new hr (rg_rvs _ _) hq (fr q hq) o⟩
theorem ok_tupR1 : BltOk X W l .tupR1 rTup1 := fun τ φ χ H H0 h ds vs Q hr rs fr o => by
  unfold blt b_tupR1 at o
  simp only at o
  split at o <;> first | exact o.elim | skip
  split at o <;> first | exact o.elim | skip
  rename_i n hk
  obtain ⟨v, rfl, r⟩ := rs.one
  cases r
  exact ⟨n, rfl, rgOk_of' hk, fun q hq => Out.tup hr (rg_rvs _ _) hq o⟩
theorem ok_tupR2 : BltOk X W l .tupR2 rTup2 := fun τ φ χ H H0 h ds vs Q hr rs fr o => by
  unfold blt b_tupR2 at o
  simp only at o
  split at o <;> first | exact o.elim | skip
  split at o <;> first | exact o.elim | skip
  rename_i hk
  obtain ⟨v, w, rfl, r, r2⟩ := rs.two
  cases r; cases r2
  exact ⟨_, _, rfl, rgOk_of' hk, fun q hq => Out.tup hr (rg_rvs _ _) hq o⟩
theorem pa_one_inv {a : Expr} {es : EL} (h : PA X [a] (tMs X W l es)) : True := trivial
section
variable {a b : Expr} {ea eb : E} {p p2 q pos : Pos} 
theorem m_listR1 (hc : X.calm = true) (hgr : Gl X "range") (hmr : X.mg "range" = none) (hg : Gl X "list") (hm : X.mg "list" = none) (ha : PE X a (tM X W l ea)) (na : starEach [a] X.env = (false, eval a X.env) :: starEach [] X.env) :
    PE X (.Call (.Name "list" p) [.Call (.Name "range" p2) [a] [] q] [] pos) (tM X W l (.blt .listR1 (.cons ea .nil))) :=
  peImp (pe_listRg hc hg hm (prg_1 hgr hmr ha na)) fun τ H Q q => by
    have z := tMs.run1 (show tMs X W l (.cons ea .nil) τ H fun vs H1 => rLst1 vs H1 Q from tM.bltR ok_listR1 τ H Q q)
    obtain ⟨φ, χ, σ, h, rs, hr, o⟩ := z
    refine ⟨φ, χ, σ, h, rs, hr, o.mono fun φ' χ' H' d h' _ x hr' g v rv => ?_⟩
    obtain ⟨n, e, k⟩ := g v rv
    cases e
    exact ⟨n, rfl, k⟩
theorem m_listR2 (hc : X.calm = true) (hgr : Gl X "range") (hmr : X.mg "range" = none) (hg : Gl X "list") (hm : X.mg "list" = none) (ha : PE X a (tM X W l ea)) (hb : PE X b (tM X W l eb)) (na : starEach [a, b] X.env = (false, eval a X.env) :: starEach [b] X.env) (nb : starEach [b] X.env = (false, eval b X.env) :: starEach [] X.env) (hp : (backTo q (starEach [b] X.env)).any (·.1) = false) :
    PE X (.Call (.Name "list" p) [.Call (.Name "range" p2) [a, b] [] q] [] pos) (tM X W l (.blt .listR2 (.cons ea (.cons eb .nil)))) :=
  peImp (pe_listRg hc hg hm (prg_2 hgr hmr ha hb na nb hp)) fun τ H Q q => by
    have z := tMs.run2 (show tMs X W l (.cons ea (.cons eb .nil)) τ H fun vs H1 => rLst2 vs H1 Q from tM.bltR ok_listR2 τ H Q q)
    obtain ⟨φ, χ, σ, h, rs, hr, o⟩ := z
    refine ⟨φ, χ, σ, h, rs, hr, o.mono fun φ' χ' H' d h' _ x hr' g v rv => ?_⟩
    obtain ⟨φ1, χ1, σ1, h1, rs1, hr1, o1⟩ := g v rv
    refine ⟨φ1, χ1, σ1, h1, rs1, hr1, o1.mono fun φ' χ' H' d h' _ x hr' g v2 rv => ?_⟩
    obtain ⟨n, m, e, k⟩ := g v2 rv
    cases e
    exact ⟨n, m, rfl, rfl, k⟩
theorem m_tupR1 (hc : X.calm = true) (hgr : Gl X "range") (hmr : X.mg "range" = none) (hg : Gl X "tuple") (hm : X.mg "tuple" = none) (ha : PE X a (tM X W l ea)) (na : starEach [a] X.env = (false, eval a X.env) :: starEach [] X.env) :
    PE X (.Call (.Name "tuple" p) [.Call (.Name "range" p2) [a] [] q] [] pos) (tM X W l (.blt .tupR1 (.cons ea .nil))) :=
  peImp (pe_tupRg hc hg hm (prg_1 hgr hmr ha na)) fun τ H Q q => by
    have z := tMs.run1 (show tMs X W l (.cons ea .nil) τ H fun vs H1 => rTup1 vs H1 Q from tM.bltR ok_tupR1 τ H Q q)
    obtain ⟨φ, χ, σ, h, rs, hr, o⟩ := z
    refine ⟨φ, χ, σ, h, rs, hr, o.mono fun φ' χ' H' d h' _ x hr' g v rv => ?_⟩
    obtain ⟨n, e, k⟩ := g v rv
    cases e
    exact ⟨n, rfl, k⟩
theorem m_tupR2 (hc : X.calm = true) (hgr : Gl X "range") (hmr : X.mg "range" = none) (hg : Gl X "tuple") (hm : X.mg "tuple" = none) (ha : PE X a (tM X W l ea)) (hb : PE X b (tM X W l eb)) (na : starEach [a, b] X.env = (false, eval a X.env) :: starEach [b] X.env) (nb : starEach [b] X.env = (false, eval b X.env) :: starEach [] X.env) (hp : (backTo q (starEach [b] X.env)).any (·.1) = false) :
    PE X (.Call (.Name "tuple" p) [.Call (.Name "range" p2) [a, b] [] q] [] pos) (tM X W l (.blt .tupR2 (.cons ea (.cons eb .nil)))) :=
  peImp (pe_tupRg hc hg hm (prg_2 hgr hmr ha hb na nb hp)) fun τ H Q q => by
    have z := tMs.run2 (show tMs X W l (.cons ea (.cons eb .nil)) τ H fun vs H1 => rTup2 vs H1 Q from tM.bltR ok_tupR2 τ H Q q)
    obtain ⟨φ, χ, σ, h, rs, hr, o⟩ := z
    refine ⟨φ, χ, σ, h, rs, hr, o.mono fun φ' χ' H' d h' _ x hr' g v rv => ?_⟩
    obtain ⟨φ1, χ1, σ1, h1, rs1, hr1, o1⟩ := g v rv
    refine ⟨φ1, χ1, σ1, h1, rs1, hr1, o1.mono fun φ' χ' H' d h' _ x hr' g v2 rv => ?_⟩
    obtain ⟨n, m, e, k⟩ := g v2 rv
    cases e
    exact ⟨n, m, rfl, rfl, k⟩
end
end
end Mp

set_option maxRecDepth 100000
/-! Mp3a: statements without loops. -/
namespace Mp
open PySem PySem.Spec PyProof.Rows L2

section
variable {X : Cx} {W : WX} {l : List Nat} {τ : L2.St} {φ φ' φ1 : List Addr} {χ χ' χ1 : Ads} {H H' H1 H0 : Hp} {h h' : Hh} {α β : Type} {K : PySem.W.Frag} {mg : Str → Option Value} {D : Ends}

/-- what is wanted behind a statement -/
def Flw (X : Cx) (W : WX) (D : Ends) (φ : List Addr) (χ : Ads) (H : Hp) : Fl → Prop
  | .nx σ => ∀ τ, RS X.K φ χ H σ τ → D.nx τ H
  | .rt d => ∀ v, RV X.K φ χ H d v → D.rt v H
  | .xc c fs σ => ∀ τ cls dd, RS X.K φ χ H σ τ → XV X.K X.mg φ χ H c fs cls dd → W cls dd τ H
def OutS (X : Cx) (W : WX) (l : List Nat) (φ : List Addr) (χ : Ads) (H : Hp) (r : R Fl) (D : Ends) : Prop := match r with
  | .ok fl h' => ∀ φ' χ' H', Ext φ χ H φ' χ' H' → HR X.K X.mg φ' χ' H' l h' → Flw X W D φ' χ' H' fl
  | _ => False
theorem OutS.later {r : R Fl} (x : Ext φ χ H φ1 χ1 H1) (o : OutS X W l φ χ H r D) : OutS X W l φ1 χ1 H1 r D := by
  cases r with
  | ok fl h' => exact fun φ2 χ2 H2 x2 hr2 => o φ2 χ2 H2 (x.trans x2) hr2
  | _ => exact o
theorem OutS.nx {σ : Sg} (o : OutS X W l φ χ H (.ok (.nx σ) h) D) (hr : HR X.K X.mg φ χ H l h) (rs : RS X.K φ χ H σ τ) : D.nx τ H := o _ _ _ .refl hr _ rs
theorem OutS.rt {d : Mp.D} {v : V} (o : OutS X W l φ χ H (.ok (.rt d) h) D) (hr : HR X.K X.mg φ χ H l h) (rv : RV X.K φ χ H d v) : D.rt v H := o _ _ _ .refl hr _ rv
theorem stE_out {σ : Sg} {r : R α} {f : α → Hh → R Fl} (rs : RS X.K φ χ H σ τ) (o : OutS X W l φ χ H (stE σ r f) D) :
    Out X W l τ φ χ H r fun φ' χ' H' a h' => OutS X W l φ' χ' H' (f a h') D := by
  cases r with
  | bad => exact o
  | ex c fs h' => exact fun φ' χ' H' cls dd x hr xv => o φ' χ' H' x hr τ cls dd (rs.ext x) xv
  | ok a h' => exact fun φ' χ' H' x hr => OutS.later x (show OutS X W l φ χ H (f a h') D from o)
/-- the readings -/
def tMS (X : Cx) (W : WX) (l : List Nat) (s : S) : TS := fun D τ H => ∃ φ χ σ h, RS X.K φ χ H σ τ ∧ HR X.K X.mg φ χ H l h ∧ OutS X W l φ χ H (exS l s σ h) D
def tML (X : Cx) (W : WX) (l : List Nat) (ss : SL) : TS := fun D τ H => ∃ φ χ σ h, RS X.K φ χ H σ τ ∧ HR X.K X.mg φ χ H l h ∧ OutS X W l φ χ H (exL l ss σ h) D
theorem psImp {st : Stmt} {t t' : TS} (p : PS X st t) (k : ∀ D τ H, t' D τ H → t D τ H) : PS X st t' := ⟨fun pins s σ H D I q => p.run pins s σ H D I (k D σ H q)⟩
theorem pssImp {st : List Stmt} {t t' : TS} (p : PSs X st t) (k : ∀ D τ H, t' D τ H → t D τ H) : PSs X st t' := ⟨fun pins s σ H D I q => p.run pins s σ H D I (k D σ H q)⟩
/-- an expression of a statement -/
theorem tM.st {e : E} {σ : Sg} {Q : VK} {f : Mp.D → Hh → R Fl} (rs : RS X.K φ χ H σ τ) (hr : HR X.K X.mg φ χ H l h) (o : OutS X W l φ χ H (stE σ (evE l e σ h) f) D)
    (k : ∀ φ' χ' H' d h' v, Ext φ χ H φ' χ' H' → HR X.K X.mg φ' χ' H' l h' → RV X.K φ' χ' H' d v → RS X.K φ' χ' H' σ τ → OutS X W l φ' χ' H' (f d h') D → Q v H') : tM X W l e τ H Q :=
  tM.to rs hr ((stE_out rs o).mono fun φ' χ' H' d h' _ _ _ g x hr' v rv => k φ' χ' H' d h' v x hr' rv (rs.ext x) g)

theorem m_pass {pos : Pos} : PS X (.Pass pos) (tMS X W l .pass) := psImp ps_pass fun D τ H ⟨φ, χ, σ, h, rs, hr, o⟩ => by
  unfold exS at o
  exact o.nx hr rs
theorem m_docS {x j pos pos'} : PS X (.Expr (.Constant (.str x) j pos) pos') (tMS X W l .pass) := psImp ps_doc fun D τ H ⟨φ, χ, σ, h, rs, hr, o⟩ => by
  unfold exS at o
  exact o.nx hr rs
theorem m_ex {e : Expr} {ee : E} {pos : Pos} (he : PE X e (tM X W l ee)) (hs : swapsWith e none pos.line X.env = pure false) : PS X (.Expr e pos) (tMS X W l (.ex ee)) :=
  psImp (ps_expr he hs) fun D τ H ⟨φ, χ, σ, h, rs, hr, o⟩ => by
    unfold exS at o
    exact tM.st rs hr o fun φ' χ' H' d h' v x hr' rv rs' g => g.nx hr' rs'
theorem m_set {i : Nat} {x : Str} {e : Expr} {ee : E} {pos pos' : Pos} (hN : X.N.Nodup) (hi : X.N[i]? = some x) (hx : Loc X.env.scope x) (he : PE X e (tM X W l ee))
    (hs : swapsWith e (some (.Name x pos')) pos.line X.env = pure false) (hf : X.fn x = true ∨ X.env.scope.names.lookup x = some .local) : PS X (.Assign [.Name x pos'] e pos) (tMS X W l (.set i ee)) :=
  psImp (ps_set hN hi hx he hs hf) fun D τ H ⟨φ, χ, σ, h, rs, hr, o⟩ => by
    unfold exS at o
    exact tM.st rs hr o fun φ' χ' H' d h' v x hr' rv rs' g => g.nx hr' (rs'.set i rv)
theorem m_ret {e : Expr} {ee : E} {pos : Pos} (he : PE X e (tM X W l ee)) : PS X (.Return (some e) pos) (tMS X W l (.ret ee)) :=
  psImp (ps_ret he) fun D τ H ⟨φ, χ, σ, h, rs, hr, o⟩ => by
    unfold exS at o
    exact tM.st rs hr o fun φ' χ' H' d h' v x hr' rv rs' g => g.rt hr' rv
theorem m_retN {pos : Pos} : PS X (.Return none pos) (tMS X W l (.ret (.cst .non))) :=
  psImp ps_retN fun D τ H ⟨φ, χ, σ, h, rs, hr, o⟩ => by
    unfold exS evE at o
    exact OutS.rt (show OutS X W l φ χ H (.ok (.rt .non) h) D from o) hr .non
theorem m_iteS {c : Expr} {ec : E} {a b : List Stmt} {sa sb : SL} {pos : Pos} (hc : PT X c (tMt X W l ec)) (ha : PSs X a (tML X W l sa)) (hb : PSs X b (tML X W l sb)) : PS X (.If c a b pos) (tMS X W l (.ite ec sa sb)) :=
  psImp (ps_if hc ha hb) fun D τ H ⟨φ, χ, σ, h, rs, hr, o⟩ => by
    unfold exS at o
    refine tMt.of rs hr ((stE_out rs o).mono fun φ1 χ1 H1 d h1 _ x1 hr1 g => ?_)
    unfold boolV at g
    split at g
    · rename_i k _
      refine ⟨k, rfl, fun _ => ?_⟩
      cases k with
      | true => exact ⟨φ1, χ1, σ, h1, rs.ext x1, hr1, g⟩
      | false => exact ⟨φ1, χ1, σ, h1, rs.ext x1, hr1, g⟩
    · exact g.elim
/-! ### blocks -/
theorem m_nilS : PSs X [] (tML X W l .nil) := pssImp pss_nil fun D τ H ⟨φ, χ, σ, h, rs, hr, o⟩ => by
  unfold exL at o
  exact o.nx hr rs
theorem m_consS {st : Stmt} {sts : List Stmt} {s : S} {ss : SL} (h1 : PS X st (tMS X W l s)) (h2 : PSs X sts (tML X W l ss)) : PSs X (st :: sts) (tML X W l (.cons s ss)) :=
  pssImp (pss_cons h1 h2) fun D τ H ⟨φ, χ, σ, h, rs, hr, o⟩ => by
    unfold exL at o
    refine ⟨φ, χ, σ, h, rs, hr, ?_⟩
    cases e : exS l s σ h with
    | bad => rw [e] at o; exact o
    | ex x fs h' => rw [e] at o; exact o
    | ok fl h' =>
      rw [e] at o
      have o : OutS X W l φ χ H (seqFl (fun σ' h' => exL l ss σ' h') fl h') D := o
      cases fl with
      | nx σ1 => exact fun φ1 χ1 H1 x1 hr1 τ1 rs1 => ⟨φ1, χ1, σ1, h', rs1, hr1, OutS.later x1 o⟩
      | rt d => exact o
      | xc c fs σ1 => exact o
theorem m_killS {sts : List Stmt} {is : List Nat} {ss : SL} (h2 : PSs X sts (tML X W l ss)) : PSs X sts (tML X W l (.cons (.kill is) ss)) :=
  pssImp h2 fun D τ H ⟨φ, χ, σ, h, rs, hr, o⟩ => by
    unfold exL exS at o
    exact ⟨φ, χ, killAll σ is, h, rs.kill is, hr, o⟩

/-! ### several targets -/
def gNs : List Nat → TGs
  | [] => gNil
  | i :: is => gCons (gName i) (gNs is)
theorem gNs_run : ∀ {is : List Nat} {ds : List Mp.D} {vs : List V} {σ σ' : Sg} {τ : L2.St} {Q : L2.St → Hp → Prop}, RS K φ χ H σ τ → RVs K φ χ H ds vs → setAll σ is ds = some σ' → (∀ τ', RS K φ χ H σ' τ' → Q τ' H) → gNs is vs τ H Q
  | [], [], _, σ, σ', τ, Q, rs, .nil, e, k => by
    cases e
    exact ⟨rfl, k τ rs⟩
  | i :: is, d :: ds, _, σ, σ', τ, Q, rs, .cons (v := v) (vs := vs) r t, e, k => by
    refine ⟨v, vs, rfl, ?_⟩
    exact gNs_run (rs.set i r) t (show setAll (σ.set i (some d)) is ds = some σ' from e) k
  | [], _ :: _, _, _, _, _, _, _, _, e, _ => nomatch e
  | _ :: _, [], _, _, _, _, _, _, _, e, _ => nomatch e
theorem setAll_len : ∀ {is : List Nat} {ds : List Mp.D} {σ σ' : Sg}, setAll σ is ds = some σ' → ds.length = is.length
  | [], [], _, _, _ => rfl
  | i :: is, d :: ds, σ, σ', e => by
    have := setAll_len (show setAll (σ.set i (some d)) is ds = some σ' from e)
    simp [this]
  | [], _ :: _, _, _, e => nomatch e
  | _ :: _, [], _, _, e => nomatch e
theorem gTup_run {is : List Nat} {d : Mp.D} {v : V} {σ σ' : Sg} {Q : L2.St → Hp → Prop} (rs : RS K φ χ H σ τ) (rv : RV K φ χ H d v) {ds : List Mp.D} (ed : d = .tup ds) (e : setAll σ is ds = some σ') (k : ∀ τ', RS K φ χ H σ' τ' → Q τ' H) :
    gTup K is.length (gNs is) v τ H Q := by
  subst ed
  cases rv with
  | @tup a vs _ t s => exact ⟨a, vs, rfl, t.sq, by rw [← s.length, setAll_len e], gNs_run rs s e k⟩
theorem m_unp {is : List Nat} {es : List Expr} {e : Expr} {ee : E} {k : Nat} {pos tpos : Pos} (he : PE X e (tM X W l ee)) (hg : PG X (.Tuple es k tpos) (gTup X.K is.length (gNs is)))
    (hs : swapsWithSole [.Tuple es k tpos] e pos.line X.env = pure false) (hw : swappedStores [.Tuple es k tpos] e X.env = pure none)
    (h1 : (assignEach [.Tuple es k tpos] X.env).map (·.2) = [assign (.Tuple es k tpos) X.env]) : PS X (.Assign [.Tuple es k tpos] e pos) (tMS X W l (.unp is ee)) :=
  psImp (ps_asg he hg hs hw h1) fun D τ H ⟨φ, χ, σ, h, rs, hr, o⟩ => by
    unfold exS at o
    refine tM.st rs hr o fun φ' χ' H' d h' v x hr' rv rs' g => ?_
    unfold unpV at g
    split at g
    · rename_i ds
      unfold someV at g
      split at g
      · rename_i σ' e
        exact gTup_run rs' rv rfl e fun τ' rs2 => (show OutS X W l φ' χ' H' (.ok (.nx σ') h') D from g).nx hr' rs2
      · exact g.elim
    · exact g.elim
theorem m_par {i j : Nat} {x y : Str} {a b : Expr} {es : EL} {px py pt pos : Pos} {kt k2 pt2} (hc : X.calm = true) (hN : X.N.Nodup) (hi : X.N[i]? = some x) (hj : X.N[j]? = some y) (hij : i ≠ j)
    (hx : X.env.scope.names.lookup x = some .local) (hy : X.env.scope.names.lookup y = some .local) (ha : PA X [a, b] (tMs X W l es))
    (hw : swappedStores [.Tuple [.Name x px, .Name y py] kt pt] (.Tuple [a, b] k2 pt2) X.env = pure (some [x, y]))
    (hs : swapsWithSole [.Tuple [.Name x px, .Name y py] kt pt] (.Tuple [a, b] k2 pt2) pos.line X.env = pure false) :
    PS X (.Assign [.Tuple [.Name x px, .Name y py] kt pt] (.Tuple [a, b] k2 pt2) pos) (tMS X W l (.par i j es)) :=
  psImp (ps_par hc hN hi hj hij hx hy ha hw hs) fun D τ H ⟨φ, χ, σ, h, rs, hr, o⟩ => by
    unfold exS at o
    refine tMs.of rs hr ((stE_out rs o).mono fun φ1 χ1 H1 ds h1 _ x1 _ g _ hr1 vs rvs => ?_)
    unfold parV at g
    split at g
    · obtain ⟨v, w, rfl, r1, r2⟩ := rvs.two
      exact ⟨v, w, rfl, OutS.nx (show OutS X W l φ1 χ1 H1 (.ok (.nx _) h1) D from g) hr1 (((rs.ext x1).set i r1).set j r2)⟩
    · exact g.elim
end
end Mp

set_option maxRecDepth 100000
/-! Mp3b: stores into lists, sources, loops. -/
namespace Mp
open PySem PySem.Spec PyProof.Rows L2

section
variable {X : Cx} {W : WX} {l : List Nat} {τ : L2.St} {φ φ' φ1 : List Addr} {χ χ' χ1 : Ads} {H H' H1 H0 : Hp} {h h' : Hh} {α β : Type} {K : PySem.W.Frag} {mg : Str → Option Value} {D : Ends}

theorem unds_set {b : Nat} {d : Mp.D} (hd : d.und b = true) : ∀ {ds : List Mp.D} {j : Nat}, Mp.D.unds b ds = true → Mp.D.unds b (ds.set j d) = true
  | [], _, _ => by simp [Mp.D.unds]
  | e :: es, 0, h => by
    have := unds_all.mp h
    exact unds_all.mpr fun x hx => by
      rcases List.mem_cons.mp (show x ∈ d :: es from hx) with q | q
      · rw [q]; exact hd
      · exact this x (by simp [q])
  | e :: es, j + 1, h => by
    have h' := unds_all.mp h
    have := unds_set hd (ds := es) (j := j) (unds_all.mpr fun x hx => h' x (by simp [hx]))
    exact unds_all.mpr fun x hx => by
      rcases List.mem_cons.mp (show x ∈ e :: es.set j d from hx) with q | q
      · rw [q]; exact h' e (by simp)
      · exact unds_all.mp this x q
theorem m_ixSet {o i e : Expr} {eo ei ee : E} {pos pos' : Pos} (ho : PE X o (tM X W l eo)) (hi : PE X i (tM X W l ei)) (he : PE X e (tM X W l ee))
    (ha : ∀ v, assign (.Subscript o i pos') X.env v = (do
      let ov ← holding [v] (eval o X.env)
      let iv ← holding [v, ov] (eval i X.env)
      standAt pos'
      holding [v, ov, iv] (PySem.setItem ov iv v)
      release [v, ov, iv] []))
    (hs : swapsWithSole [.Subscript o i pos'] e pos.line X.env = pure false) (hw : swappedStores [.Subscript o i pos'] e X.env = pure none)
    (h1 : (assignEach [.Subscript o i pos'] X.env).map (·.2) = [assign (.Subscript o i pos') X.env]) : PS X (.Assign [.Subscript o i pos'] e pos) (tMS X W l (.ixSet eo ei ee)) :=
  psImp (ps_asg he (pg_sub ho hi set_list ha) hs hw h1) fun D τ H ⟨φ, χ, σ, h, rs, hr, oo⟩ => by
    unfold exS at oo
    refine tM.st rs hr oo fun φ1 χ1 H1 z h1 vz x1 hr1 rz rs1 g1 => ?_
    refine tM.st rs1 hr1 g1 fun φ2 χ2 H2 x h2 vx x2 hr2 rx rs2 g2 => ?_
    refine tM.st rs2 hr2 g2 fun φ3 χ3 H3 y h3 vy x3 hr3 ry rs3 g3 => ?_
    have rx3 := rx.ext x3
    have rz3 := rz.ext (x2.trans x3)
    unfold Mp.setItem at g3
    split at g3
    · rename_i n k
      split at g3
      · rename_i xs e
        split at g3
        · rename_i j ej
          split at g3
          · rename_i hst
            cases ry
            cases rx3 with
            | ref q =>
              obtain ⟨ws, ha', s⟩ := hr3.getL q e
              obtain ⟨x, hr4⟩ := hr3.wr q e ha' (s.set rz3 j) fun b hb => by
                rcases stOk_all hst b hb with z' | z'
                · exact .inl z'
                · rcases hr3.limL e b hb with y' | y'
                  · exact .inl y'
                  · exact .inr (unds_set z' y')
              exact ⟨_, ws, k, j, rfl, rfl, ha', by rw [← s.length, ixAt_eq]; exact ej, OutS.nx (OutS.later x (show OutS X W l φ3 χ3 H3 (.ok (.nx σ) _) D from g3)) hr4 (rs3.ext x)⟩
          · exact g3.elim
        · exact g3.elim
      · exact g3.elim
    · exact g3.elim

/-! ### what a loop walks -/
/-- an iterator that yields these items, as long as what is watched stands -/
def SrcJ (X : Cx) (l : List Nat) (φ : List Addr) (χ : Ads) (H : Hp) (dw : List Mp.D × Wt) (J : L2.It) : Prop := ∀ φ2 χ2 H2 h2, Ext φ χ H φ2 χ2 H2 → HR X.K X.mg φ2 χ2 H2 l h2 → watch dw.2 h2 →
  (∀ i d, dw.1[i]? = some d → J.go i H2 ∧ ∀ x H3, J.yld i H2 x H3 → Ext φ2 χ2 H2 φ2 χ2 H3 ∧ HR X.K X.mg φ2 χ2 H3 l h2 ∧ RV X.K φ2 χ2 H3 d x) ∧ J.stop dw.1.length H2
def iM (X : Cx) (W : WX) (l : List Nat) (src : Mp.It) : TI := fun τ H R => ∃ φ χ σ h, RS X.K φ χ H σ τ ∧ HR X.K X.mg φ χ H l h ∧
  Out X W l τ φ χ H (evI l src σ h) fun φ' χ' H' dw _ => ∀ J, SrcJ X l φ' χ' H' dw J → R J H'
theorem piImp {tg e : Expr} {t t' : TI} (p : PI X tg e t) (k : ∀ τ H R, t' τ H R → t τ H R) : PI X tg e t' := ⟨fun pins s σ H R I q => p.run pins s σ H R I (k σ H R q)⟩
/-- the items of a value that is walked, later on -/
def Sq (K : PySem.W.Frag) (t : Bool) (H : Hp) (a : Addr) (xs : List V) : Prop := if t = true then SqT K H a xs else SqL K H a xs
def SrcA (X : Cx) (l : List Nat) (φ : List Addr) (χ : Ads) (H : Hp) (dw : List Mp.D × Wt) (t : Bool) (a : Addr) : Prop := ∀ φ2 χ2 H2 h2, Ext φ χ H φ2 χ2 H2 → HR X.K X.mg φ2 χ2 H2 l h2 → watch dw.2 h2 → ∃ vs, Sq X.K t H2 a vs ∧ RVs X.K φ2 χ2 H2 dw.1 vs
theorem RV.src (hr : HR X.K X.mg φ χ H l h) {d : Mp.D} {v : V} (r : RV X.K φ χ H d v) {dw : List Mp.D × Wt} (e : srcOf h d = some dw) : ∃ a t, v = .ref a ∧ SrcA X l φ χ H dw t a := by
  cases r with
  | @tup a vs ds t s =>
    have e' : (ds, ([] : Wt)) = dw := Option.some.inj e
    subst e'
    exact ⟨a, true, rfl, fun φ2 χ2 H2 h2 x hr2 w => ⟨vs, (t.ext x).sq, s.ext x⟩⟩
  | @lst a vs ds n z s =>
    have e' : (ds, ([] : Wt)) = dw := Option.some.inj e
    subst e'
    exact ⟨a, false, rfl, fun φ2 χ2 H2 h2 x hr2 w => ⟨vs, SqL.of (x.keep _ _ n z), s.ext x⟩⟩
  | @scr a ns s =>
    have e' : (ns.map Mp.D.int, ([] : Wt)) = dw := Option.some.inj e
    subst e'
    exact ⟨a, false, rfl, fun φ2 χ2 H2 h2 x hr2 w => ⟨_, (s.ext x).sq, RVs.ints ns⟩⟩
  | @ref n a q =>
    obtain ⟨ds, e1, e2⟩ := Option.map_eq_some_iff.mp (show (getL h n).map (fun ds => (ds, ([(n, ds)] : Wt))) = some dw from e)
    subst e2
    refine ⟨a, false, rfl, fun φ2 χ2 H2 h2 x hr2 w => ?_⟩
    obtain ⟨vs, z, s⟩ := hr2.getL (x.at q) (w (n, ds) (by simp))
    exact ⟨vs, SqL.of z, s⟩
  | _ => simp [srcOf, Mp.seqOf, Mp.listOf, Mp.lstOf] at e
/-- over a list or a tuple -/
def iSeqA (K : PySem.W.Frag) (tl : TE) : TI := fun σ H R => tl σ H fun x H1 => ∃ a t xs, x = .ref a ∧ Sq K t H1 a xs ∧ R (if t = true then Itt K a else Itl K a) H1
theorem pi_seqA {tg e : Expr} {tl : TE} (hl : PE X e tl) : PI X tg e (iSeqA X.K tl) := by
  refine ⟨fun pins s σ H R I h => thn (hl.run pins s σ H _ I h) fun v s1 ⟨x, H1, I1, r1, a, t, xs, e, hq, q⟩ => ?_⟩
  subst e
  cases r1
  have fp : ∀ b ∈ [s1.heap.objs.size], FpOk X pins H1 b := fun b hb => by
    obtain rfl : b = s1.heap.objs.size := by simpa using hb
    exact I1.fpOk (Nat.le_refl _) (I1.hok.fresh (Nat.le_refl _))
  cases t with
  | false =>
    obtain ⟨its, rv, p, hz⟩ := I1.list (show SqL X.K H1 a xs from hq)
    exact wpAny_pyIter_list p.isList ⟨s1.heap.objs.size, [s1.heap.objs.size], _, _, H1, rfl, I1.kept (t' := s1.toks) fun b o e => Heap.get?_push_of_some _ e, turn_list a _, ⟨_, Heap.get?_push_size _ rfl, rfl, rfl⟩, fp, q⟩
  | true =>
    obtain ⟨its, rv, p, hz⟩ := I1.tuple (show SqT X.K H1 a xs from hq)
    exact wpAny_pyIter_tuple (show s1.heap.IsTuple a its.toArray from p) ⟨s1.heap.objs.size, [s1.heap.objs.size], _, _, H1, rfl, I1.kept (t' := s1.toks) fun b o e => Heap.get?_push_of_some _ e, turn_tuple a _, ⟨_, Heap.get?_push_size _ rfl, rfl, rfl⟩, fp, q⟩
theorem RVs.get' {ds : List Mp.D} {vs : List V} (r : RVs K φ χ H ds vs) {i : Nat} {x : V} (e : vs[i]? = some x) {d : Mp.D} (ed : ds[i]? = some d) : RV K φ χ H d x := by
  obtain ⟨v, q1, q2⟩ := r.get ed
  rw [q1] at e; cases e
  exact q2
theorem SrcA.it {dw : List Mp.D × Wt} {t : Bool} {a : Addr} (s : SrcA X l φ χ H dw t a) : SrcJ X l φ χ H dw (if t = true then Itt X.K a else Itl X.K a) := by
  intro φ2 χ2 H2 h2 x hr2 w
  obtain ⟨vs, q, rvs⟩ := s φ2 χ2 H2 h2 x hr2 w
  have hl := rvs.length
  cases t with
  | false =>
    refine ⟨fun i d e => ?_, ⟨vs, q, by rw [hl]; exact Nat.le_refl _⟩⟩
    obtain ⟨v, e1, rv⟩ := rvs.get e
    refine ⟨⟨vs, v, q, e1⟩, fun y H3 ⟨eh, k⟩ => ?_⟩
    subst eh
    exact ⟨.refl, hr2, rvs.get' (k vs q) e⟩
  | true =>
    refine ⟨fun i d e => ?_, ⟨vs, q, by rw [hl]; exact Nat.le_refl _⟩⟩
    obtain ⟨v, e1, rv⟩ := rvs.get e
    refine ⟨⟨vs, v, q, e1⟩, fun y H3 ⟨eh, k⟩ => ?_⟩
    subst eh
    exact ⟨.refl, hr2, rvs.get' (k vs q) e⟩
theorem someV_out {o : Option α} {good : List Addr → Ads → Hp → α → Hh → Prop} (g : Out X W l τ φ χ H (someV h o) good) : ∃ a, o = some a ∧ Out X W l τ φ χ H (.ok a h) good := by
  cases o with
  | none => exact g.elim
  | some a => exact ⟨a, rfl, g⟩
theorem watch_now {d : Mp.D} {dw : List Mp.D × Wt} (e : srcOf h d = some dw) : watch dw.2 h := by
  cases d with
  | ref n =>
    obtain ⟨ds, e1, e2⟩ := Option.map_eq_some_iff.mp (show (getL h n).map (fun ds => (ds, ([(n, ds)] : Wt))) = some dw from e)
    subst e2
    intro p hp
    obtain rfl : p = (n, ds) := by simpa using hp
    exact e1
  | _ =>
    simp only [srcOf] at e
    obtain ⟨ds, e1, e2⟩ := Option.map_eq_some_iff.mp e
    subst e2
    intro p hp
    simp at hp
theorem m_srcSeq {tg e : Expr} {ee : E} (he : PE X e (tM X W l ee)) : PI X tg e (iM X W l (.seq ee)) :=
  piImp (pi_seqA he) fun τ H R ⟨φ, χ, σ, h, rs, hr, o⟩ => by
    unfold evI at o
    refine tM.to rs hr (o.bind.mono fun φ1 χ1 H1 d1 h1 _ x1 _ g1 _ hr1 v1 rv1 => ?_)
    obtain ⟨dw, e, g⟩ := someV_out g1
    obtain ⟨a, t, rfl, s⟩ := rv1.src hr1 e
    obtain ⟨vs, q, _⟩ := s _ _ _ _ .refl hr1 (watch_now e)
    exact ⟨a, t, vs, rfl, q, g _ _ _ .refl hr1 _ s.it⟩
theorem rg_get {a b : Int} {i : Nat} {d : Mp.D} (e : (rg a b)[i]? = some d) : i < (b - a).toNat ∧ d = .int (a + i) := by
  unfold rg at e
  rw [List.getElem?_map] at e
  obtain ⟨j, e1, e2⟩ := Option.map_eq_some_iff.mp e
  obtain ⟨hl, e3⟩ := List.getElem?_eq_some_iff.mp e1
  simp at hl e3
  subst e3
  exact ⟨by omega, e2.symm⟩
theorem rg_len {a b : Int} : (rg a b).length = (b - a).toNat := by unfold rg; simp
theorem SrcJ.rg {a b : Int} : SrcJ X l φ χ H (Mp.rg a b, []) (Itr a (b - a).toNat) := by
  intro φ2 χ2 H2 h2 x hr2 w
  refine ⟨fun i d e => ?_, by rw [rg_len]; exact Nat.le_refl _⟩
  obtain ⟨hi, rfl⟩ := rg_get e
  refine ⟨hi, fun y H3 ⟨eh, ey⟩ => ?_⟩
  subst eh ey
  exact ⟨.refl, hr2, .int _⟩
theorem rgOk_of {a b : Int} (h : rgOk a b = true) : -(2 ^ 62) ≤ a ∧ a < 2 ^ 62 ∧ -(2 ^ 62) ≤ b ∧ b < 2 ^ 62 ∧ b - a ≤ 16777216 := by
  unfold rgOk at h
  exact of_decide_eq_true h
theorem m_srcRg1 {tg a : Expr} {ea : E} {p pos : Pos} (hg : Gl X "range") (hm : X.mg "range" = none) (ha : PE X a (tM X W l ea)) (hs : starEach [a] X.env = [(false, eval a X.env)]) :
    PI X tg (.Call (.Name "range" p) [a] [] pos) (iM X W l (.rg1 ea)) :=
  piImp (pi_range1 hg hm (pa_cons ha pa_nil hs) hs) fun τ H R ⟨φ, χ, σ, h, rs, hr, o⟩ => by
    unfold evI at o
    refine tM.to rs hr (o.bind.mono fun φ1 χ1 H1 d1 h1 _ x1 _ g1 _ hr1 v1 rv1 => ?_)
    cases d1 with
    | int j =>
      unfold Mp.rgV at g1
      simp only at g1
      split at g1
      · rename_i hk
        have hk := rgOk_of hk
        cases rv1
        exact ⟨_, rfl, hk.2.2.1, hk.2.2.2.1, g1 _ _ _ .refl hr1 _ (by have := SrcJ.rg (X := X) (l := l) (φ := φ1) (χ := χ1) (H := H1) (a := 0) (b := j); simpa using this)⟩
      · exact g1.elim
    | _ => exact g1.elim
theorem m_srcRg2 {tg a b : Expr} {ea eb : E} {p pos : Pos} (hg : Gl X "range") (hm : X.mg "range" = none) (ha : PE X a (tM X W l ea)) (hb : PE X b (tM X W l eb)) (hs : starEach [a, b] X.env = [(false, eval a X.env), (false, eval b X.env)]) (hs2 : starEach [b] X.env = [(false, eval b X.env)]) :
    PI X tg (.Call (.Name "range" p) [a, b] [] pos) (iM X W l (.rg2 ea eb)) :=
  piImp (pi_range2 hg hm (pa_cons ha (pa_cons hb pa_nil hs2) (by rw [hs, hs2])) hs hs2) fun τ H R ⟨φ, χ, σ, h, rs, hr, o⟩ => by
    unfold evI at o
    refine tM.to rs hr (o.bind.mono fun φ1 χ1 H1 d1 h1 _ x1 _ g1 _ hr1 v1 rv1 => ?_)
    refine tM.to (rs.ext x1) hr1 (g1.bind.mono fun φ2 χ2 H2 d2 h2 _ x2 _ g2 _ hr2 v2 rv2 => ?_)
    unfold Mp.rgV at g2
    split at g2
    · rename_i i j
      split at g2
      · rename_i hk
        have hk := rgOk_of hk
        cases rv1
        cases rv2
        exact ⟨_, _, rfl, ⟨hk.1, hk.2.1, hk.2.2.1, hk.2.2.2.1⟩, g2 _ _ _ .refl hr2 _ SrcJ.rg⟩
      · exact g2.elim
    · exact g2.elim

/-! ### loops -/
def tgM (K : PySem.W.Frag) : List Nat → TG
  | [i] => gName i
  | is => gTup K is.length (gNs is)
theorem tgM_run {tg : List Nat} {d : Mp.D} {v : V} {σ σ' : Sg} {Q : L2.St → Hp → Prop} (rs : RS K φ χ H σ τ) (rv : RV K φ χ H d v) (e : target h tg d σ = some σ') (k : ∀ τ', RS K φ χ H σ' τ' → Q τ' H) : tgM K tg v τ H Q := by
  unfold target at e
  split at e
  · cases e
    exact k _ (rs.set _ rv)
  · rename_i is hne
    split at e
    · have q := gTup_run (K := K) (is := tg) (Q := Q) rs rv rfl e k
      cases tg with
      | nil => exact q
      | cons i is =>
        cases is with
        | nil => exact absurd rfl (hne i)
        | cons j js => exact q
    · cases e
theorem bindT_outS {tg : List Nat} {d : Mp.D} {σ : Sg} {f : Sg → R Fl} (o : OutS X W l φ χ H (bindT h tg d σ f) D) : ∃ σ', target h tg d σ = some σ' ∧ OutS X W l φ χ H (f σ') D := by
  unfold bindT at o
  split at o
  · rename_i σ' e
    exact ⟨σ', e, o⟩
  · exact o.elim
theorem m_while {c : Expr} {ec : E} {body : List Stmt} {sb : SL} {kill : List Nat} {pos : Pos} (hp : PassesOwn (model X.prog X.w) X.A X.env X.xe) (hc : PT X c (tMt X W l ec)) (hb : PSs X body (tML X W l sb)) :
    PS X (.While c body [] pos) (tMS X W l (.while_ ec sb kill)) :=
  psImp (ps_while hp hc hb) fun D τ H ⟨φ, χ, σ, h, rs, hr, o⟩ => by
    unfold exS at o
    have nb : whileL (evE l ec) (thenK kill (exL l sb)) (killAll σ kill) h ≠ .bad := fun e => by rw [e] at o; exact o
    obtain ⟨n, _, en⟩ := whileL_ex nb
    rw [en] at o
    refine ⟨fun m τ H => ∃ φ χ σ h, RS X.K φ χ H σ τ ∧ HR X.K X.mg φ χ H l h ∧ OutS X W l φ χ H (whileN (evE l ec) (thenK kill (exL l sb)) m σ h) D, ⟨n, φ, χ, _, h, rs.kill kill, hr, o⟩, ?_⟩
    rintro m τ H ⟨φ, χ, σ, h, rs, hr, o⟩
    cases m with
    | zero => exact o.elim
    | succ m =>
      refine ⟨φ, χ, σ, h, rs, hr, ?_⟩
      unfold whileN at o
      cases e : evE l ec σ h with
      | bad => rw [e] at o; exact o
      | ex x fs h' =>
        rw [e] at o
        exact fun φ1 χ1 H1 cls dd x1 hr1 xv => o φ1 χ1 H1 x1 hr1 _ cls dd (rs.ext x1) xv
      | ok d h1 =>
        rw [e] at o
        intro φ1 χ1 H1 x1 hr1
        have o1 := OutS.later x1 o
        split at o1
        · rename_i h2 e2
          cases e2
          refine ⟨true, rfl, ?_⟩
          refine ⟨_, fun τ' H' q => ⟨m, Nat.lt_succ_self m, q⟩, φ1, χ1, σ, h1, rs.ext x1, hr1, ?_⟩
          cases eb : exL l sb σ h1 with
          | bad => simp only [thenK, eb] at o1; exact o1
          | ex x fs h' => simp only [thenK, eb] at o1; exact o1
          | ok fl h' =>
            simp only [thenK, eb] at o1
            cases fl with
            | nx σ1 => exact fun φ2 χ2 H2 x2 hr2 τ2 rs2 => ⟨φ2, χ2, _, h', rs2.kill kill, hr2, OutS.later x2 o1⟩
            | rt d => exact o1
            | xc c fs σ1 => exact o1
        · rename_i h2 e2
          cases e2
          exact ⟨false, rfl, o1.nx hr1 (rs.ext x1)⟩
        · exact o1.elim
        · rename_i e2; cases e2
        · rename_i e2; cases e2
theorem ifW_out {w : Wt} {r : R Fl} (o : OutS X W l φ χ H (ifW w h r) D) : watch w h ∧ OutS X W l φ χ H r D := by
  unfold ifW at o
  split at o
  · exact ⟨by assumption, o⟩
  · exact o.elim
theorem m_for {tgx iter : Expr} {body : List Stmt} {tg : List Nat} {src : Mp.It} {sb : SL} {kill : List Nat} {pos : Pos} (hp : PassesOwn (model X.prog X.w) X.A X.env X.xe) (hc : X.calm = true) (hi : PI X tgx iter (iM X W l src)) (hg : PG X tgx (tgM X.K tg)) (hb : PSs X body (tML X W l sb))
    (hs : ∀ x, foldedSetIterable iter X.env x = pure x) : PS X (.For tgx iter body [] pos) (tMS X W l (.for_ tg src sb kill)) :=
  psImp (ps_for hp hc hi hg hb hs) fun D τ H ⟨φ, χ, σ, h, rs, hr, o⟩ => by
    unfold exS at o
    refine ⟨φ, χ, σ, h, rs, hr, (stE_out rs o).mono fun φ1 χ1 H1 dw h1 _ x1 hr1 g J sj => ?_⟩
    refine ⟨fun i m τ H => ∃ φ2 χ2 σ2 h2, Ext φ1 χ1 H1 φ2 χ2 H ∧ RS X.K φ2 χ2 H σ2 τ ∧ HR X.K X.mg φ2 χ2 H l h2 ∧ m = dw.1.length - i ∧ i ≤ dw.1.length ∧
      OutS X W l φ2 χ2 H (forL dw.2 (turnK tg kill (exL l sb)) (dw.1.drop i) σ2 h2) D, ⟨_, φ1, χ1, _, h1, .refl, (rs.ext x1).kill kill, hr1, rfl, Nat.zero_le _, by simpa using g⟩, ?_⟩
    rintro i m τ H ⟨φ2, χ2, σ2, h2, x2, rs2, hr2, rfl, hi, o2⟩
    by_cases hlt : i < dw.1.length
    · rw [List.drop_eq_getElem_cons hlt] at o2
      unfold forL at o2
      obtain ⟨w, o2⟩ := ifW_out o2
      obtain ⟨k1, _⟩ := sj φ2 χ2 H h2 x2 hr2 w
      obtain ⟨go, k2⟩ := k1 i _ (List.getElem?_eq_getElem hlt)
      refine .inr ⟨go, _, fun τ' H' q => ⟨dw.1.length - (i + 1), by omega, q⟩, fun x H' y => ?_⟩
      obtain ⟨x3, hr3, rv⟩ := k2 x H' y
      have nb : OutS X W l φ2 χ2 H' (match bindT h2 tg dw.1[i] σ2 fun σ' => (exL l sb σ' h2).bind (killV kill) with
        | .ok (.nx σ') h' => forL dw.2 (turnK tg kill (exL l sb)) (dw.1.drop (i + 1)) σ' h'
        | r => r) D := OutS.later x3 o2
      cases et : target h2 tg dw.1[i] σ2 with
      | none => unfold bindT at nb; rw [et] at nb; exact nb.elim
      | some σ3 =>
        unfold bindT at nb
        rw [et] at nb
        refine tgM_run (h := h2) (rs2.ext x3) rv et fun τ3 rs3 => ?_
        refine ⟨φ2, χ2, σ3, h2, rs3, hr3, ?_⟩
        simp only at nb
        cases eb : exL l sb σ3 h2 with
        | bad => rw [eb] at nb; exact nb
        | ex c fs h' => rw [eb] at nb; exact nb
        | ok fl h' =>
          rw [eb] at nb
          cases fl with
          | nx σ4 => exact fun φ4 χ4 H4 x4 hr4 τ4 rs4 => ⟨φ4, χ4, _, h', x2.trans (x3.trans x4), rs4.kill kill, hr4, rfl, hlt, OutS.later x4 nb⟩
          | rt d => exact nb
          | xc c fs σ4 => exact nb
    · have ei : i = dw.1.length := by omega
      subst ei
      rw [List.drop_length] at o2
      unfold forL at o2
      obtain ⟨w, o2⟩ := ifW_out o2
      obtain ⟨_, k2⟩ := sj φ2 χ2 H h2 x2 hr2 w
      exact .inl ⟨k2, o2.nx hr2 rs2⟩
end
end Mp

set_option maxRecDepth 100000
/-! Mp3c: list comprehensions. -/
namespace Mp
open PySem PySem.Spec PyProof.Rows L2

theorem wipe_get (τ : L2.St) (j : Nat) : ∀ vs : List Nat, (wipe τ vs)[j]? = if j ∈ vs then (τ[j]?).map (fun _ => none) else τ[j]?
  | [] => by simp [wipe]
  | v :: vs => by
    unfold wipe
    rw [List.getElem?_set, wipe_get τ j vs]
    by_cases e : v = j
    · subst e
      rw [if_pos rfl, if_pos (List.mem_cons_self), wipe_length]
      by_cases hl : v < τ.length
      · rw [if_pos hl, List.getElem?_eq_getElem hl]; rfl
      · rw [if_neg hl, List.getElem?_eq_none (by omega)]; rfl
    · rw [if_neg e]
      by_cases hm : j ∈ vs
      · rw [if_pos hm, if_pos (List.mem_cons_of_mem _ hm)]
      · rw [if_neg hm, if_neg (by simp only [List.mem_cons, not_or]; exact ⟨fun q => e q.symm, hm⟩)]
theorem wipe_set {τ : L2.St} {vs : List Nat} {i : Nat} {x : Option V} (hi : i ∈ vs) : wipe (τ.set i x) vs = wipe τ vs := by
  refine List.ext_getElem? fun j => ?_
  rw [wipe_get, wipe_get]
  by_cases hj : j ∈ vs
  · rw [if_pos hj, if_pos hj, List.getElem?_set]
    by_cases e : i = j
    · subst e
      rw [if_pos rfl]
      by_cases hl : i < τ.length
      · rw [if_pos hl, List.getElem?_eq_getElem hl]; rfl
      · rw [if_neg hl, List.getElem?_eq_none (by omega)]
    · rw [if_neg e]
  · rw [if_neg hj, if_neg hj, List.getElem?_set_ne (by rintro rfl; exact hj hi)]
theorem wipe_idem {τ : L2.St} {vs : List Nat} : wipe (wipe τ vs) vs = wipe τ vs := by
  refine List.ext_getElem? fun j => ?_
  rw [wipe_get, wipe_get]
  by_cases hj : j ∈ vs
  · rw [if_pos hj, if_pos hj, Option.map_map]; rfl
  · rw [if_neg hj, if_neg hj]

section
variable {X : Cx} {W : WX} {l : List Nat} {τ : L2.St} {φ φ' φ1 : List Addr} {χ χ' χ1 : Ads} {H H' H1 H0 : Hp} {h h' : Hh} {α β : Type} {K : PySem.W.Frag} {mg : Str → Option Value}

theorem killAll_get {σ : Sg} {i : Nat} {d : D} : ∀ {is : List Nat}, (killAll σ is)[i]? = some (some d) → σ[i]? = some (some d) ∧ i ∉ is := by
  intro is
  induction is generalizing σ with
  | nil => exact fun e => ⟨e, by simp⟩
  | cons j js ih =>
    intro e
    obtain ⟨e1, e2⟩ := ih (show (killAll (σ.set j none) js)[i]? = some (some d) from e)
    rw [List.getElem?_set] at e1
    split at e1
    · split at e1 <;> cases e1
    · rename_i hne
      exact ⟨e1, by simp only [List.mem_cons, not_or]; exact ⟨fun q => hne q.symm, e2⟩⟩
theorem killAll_len {σ : Sg} : ∀ {is : List Nat}, (killAll σ is).length = σ.length := by
  intro is
  induction is generalizing σ with
  | nil => rfl
  | cons j js ih => exact (ih (σ := σ.set j none)).trans (by simp)
theorem RS.wipe {σ : Sg} (rs : RS K φ χ H σ τ) (vs : List Nat) : RS K φ χ H (killAll σ vs) (L2.wipe τ vs) :=
  ⟨by rw [killAll_len, wipe_length, rs.len], fun i d e => by
    obtain ⟨e1, e2⟩ := killAll_get e
    obtain ⟨v, q1, q2⟩ := rs.at_ i d e1
    exact ⟨v, by rw [wipe_get, if_neg e2]; exact q1, q2⟩⟩
theorem gNs_runW : ∀ {is vs' : List Nat} {ds : List D} {vs : List V} {σ σ' : Sg} {τ : L2.St} {Q : L2.St → Hp → Prop}, (∀ i ∈ is, i ∈ vs') → RS K φ χ H σ τ → RVs K φ χ H ds vs → setAll σ is ds = some σ' → (∀ τ', RS K φ χ H σ' τ' → L2.wipe τ' vs' = L2.wipe τ vs' → Q τ' H) → gNs is vs τ H Q
  | [], _, [], _, σ, σ', τ, Q, _, rs, .nil, e, k => by
    cases e
    exact ⟨rfl, k τ rs rfl⟩
  | i :: is, vs', d :: ds, _, σ, σ', τ, Q, hs, rs, .cons (v := v) (vs := vs) r t, e, k => by
    refine ⟨v, vs, rfl, ?_⟩
    exact gNs_runW (vs' := vs') (fun j hj => hs j (by simp [hj])) (rs.set i r) t (show setAll (σ.set i (some d)) is ds = some σ' from e) fun τ' rs' ew => k τ' rs' (ew.trans (wipe_set (hs i (by simp))))
  | [], _, _ :: _, _, _, _, _, _, _, _, _, e, _ => nomatch e
  | _ :: _, _, [], _, _, _, _, _, _, _, _, e, _ => nomatch e
theorem tgM_runW {tg : List Nat} {d : D} {v : V} {σ σ' : Sg} {Q : L2.St → Hp → Prop} (rs : RS K φ χ H σ τ) (rv : RV K φ χ H d v) (e : target h tg d σ = some σ') (k : ∀ τ', RS K φ χ H σ' τ' → L2.wipe τ' tg = L2.wipe τ tg → Q τ' H) : tgM K tg v τ H Q := by
  unfold target at e
  split at e
  · cases e
    exact k _ (rs.set _ rv) (wipe_set (by simp))
  · rename_i is hne
    split at e
    · have q : gTup K tg.length (gNs tg) v τ H Q := by
        cases rv with
        | @tup a vs _ t s => exact ⟨a, vs, rfl, t.sq, by rw [← s.length, setAll_len e], gNs_runW (fun _ h => h) rs s e k⟩
      cases tg with
      | nil => exact q
      | cons i is =>
        cases is with
        | nil => exact absurd rfl (hne i)
        | cons j js => exact q
    · cases e
/-- in a block nothing may be raised -/
abbrev WF : WX := fun _ _ _ _ => False
/-- a comprehension's test -/
def tcM (X : Cx) (l : List Nat) (c : E) : TT := if isNo c = true then tYes else tMt X WF l c
theorem noEx_ok {r : R α} {f : α → Hh → R β} {good : List Addr → Ads → Hp → β → Hh → Prop} (o : Out X W l τ φ χ H (r.noEx.bind f) good) : ∃ a h', r = .ok a h' ∧ Out X W l τ φ χ H (f a h') good := by
  cases r with
  | ok a h' => exact ⟨a, h', rfl, o⟩
  | ex c fs h' => exact o.elim
  | bad => exact o.elim
theorem compL_cons {w : Wt} {f : D → Hh → R (Option D)} {d : D} {ds rest : List D} {h hf : Hh} (e : compL w f (d :: ds) h = .ok rest hf) :
    watch w h ∧ ∃ o h' xs, f d h = .ok o h' ∧ compL w f ds h' = .ok xs hf ∧ rest = (match o with | some x => x :: xs | none => xs) := by
  unfold compL ifW at e
  split at e
  · rename_i hw
    refine ⟨hw, ?_⟩
    cases e1 : f d h with
    | bad => rw [e1] at e; cases e
    | ex c fs h' => rw [e1] at e; cases e
    | ok o h' =>
      rw [e1] at e
      simp only [R.bind_ok] at e
      cases e2 : compL w f ds h' with
      | bad => rw [e2] at e; cases e
      | ex c fs h' => rw [e2] at e; cases e
      | ok xs h'' =>
        rw [e2] at e
        simp only [R.bind_ok] at e
        cases e
        exact ⟨o, h', xs, rfl, e2, rfl⟩
  · cases e
theorem compL_nil {w : Wt} {f : D → Hh → R (Option D)} {rest : List D} {h hf : Hh} (e : compL w f [] h = .ok rest hf) : watch w h ∧ rest = [] ∧ hf = h := by
  unfold compL ifW at e
  split at e
  · rename_i hw
    cases e
    exact ⟨hw, rfl, rfl⟩
  · cases e
theorem HR.back {hr0 : True} (x : Ext φ χ H φ1 χ1 H1) (hr1 : HR X.K X.mg φ1 χ1 H1 l h') (hr : HR X.K X.mg φ χ H l h) {p : Addr} (hn : H1 p = none) : H p = none := x.back hr1 hr hn
/-- a list kept apart is written -/
theorem wr_apart {p : Addr} {vs ws : List V} (hr : HR X.K X.mg φ χ H l h) (c1 : χ p) (c2 : p ∉ φ) (c3 : H p = some (.lst vs)) :
    ExtW φ χ H φ χ (upd H p (.lst ws)) ∧ HR X.K X.mg φ χ (upd H p (.lst ws)) l h := by
  have x : ExtW φ χ H φ χ (upd H p (.lst ws)) := by
    refine ⟨⟨[], by simp⟩, fun _ q => q, fun _ q n => absurd q n, fun a o n ho => ?_, fun a xs ho => ?_, fun a o xs ho => ?_⟩
    · rw [upd_ne (by rintro rfl; exact n c1)]; exact ho
    · rw [upd_ne (fun e => by rw [e, c3] at ho; cases ho)]; exact ho
    · rw [upd_ne (fun e => by rw [e, c3] at ho; cases ho)]; exact ho
  refine ⟨x, hr.extW x (fun a ha => upd_ne fun e => c2 (e ▸ ha)) fun a q => ?_⟩
  by_cases e : a = p
  · rw [e, upd_same]; simp
  · rw [upd_ne e]; exact hr.ch a q
theorem Ext.wr_new {p : Addr} {o : HO} (x : Ext φ χ H φ1 χ1 H1) (hn : H p = none) : Ext φ χ H φ1 χ1 (upd H1 p o) :=
  ⟨⟨x.pre, x.sub, x.new, fun a u n ho => by rw [upd_ne (ne_of_none ho hn)]; exact x.keep a u n ho, fun a xs ho => by rw [upd_ne (ne_of_none ho hn)]; exact x.tups a xs ho, fun a u xs ho => by rw [upd_ne (ne_of_none ho hn)]; exact x.frl a u xs ho⟩,
    fun a u n ho => by rw [upd_ne (ne_of_none ho hn)]; exact x.kp a u n ho, x.fr⟩
theorem comp_run {e c : E} {tg : List Nat} {src : Mp.It} {Q : VK} (q : tM X W l (.comp e tg src c) τ H Q) : tLc (iM X W l src) (tgM X.K tg) (tcM X l c) (tM X WF l e) tg τ H Q := by
  obtain ⟨φ, χ, σ, h, rs, hr, o⟩ := q
  unfold evE at o
  refine ⟨φ, χ, σ, h, rs, hr, o.bind.mono fun φ1 χ1 H1 dw h1 _ x1 hr1 g J sj => ?_⟩
  obtain ⟨ds, hf, ec, g⟩ := noEx_ok g
  have g2 : ds.length < sizeLine ∧ Out X W l τ φ1 χ1 H1 (.ok (.lst ds) hf) fun φ' χ' H' d h' => ∀ (v : V), RVf (E.comp e tg src c).fresh X.K H φ' χ' H' d v → Q v H' := by
    split at g
    · rename_i hl; exact ⟨hl, g⟩
    · exact g.elim
  obtain ⟨hl, g⟩ := g2
  intro Da hD
  generalize hF : itemK tg σ (isNo c) (evE l c) (evE l e) = F at ec
  refine ⟨fun i m H' => ∃ φ2 χ2 h2 acc vs rest, Ext φ1 χ1 H1 φ2 χ2 H' ∧ Da ∉ φ2 ∧ χ2 Da ∧ H' Da = some (.lst vs) ∧ HR X.K X.mg φ2 χ2 H' l h2 ∧ RVs X.K φ2 χ2 H' acc vs ∧ m = dw.1.length - i ∧ i ≤ dw.1.length ∧
    compL dw.2 F (dw.1.drop i) h2 = .ok rest hf ∧ acc ++ rest = ds, ⟨_, φ1, _, h1, [], [], ds, Ext.newL hD, (fun ha => by obtain ⟨u, q⟩ := hr1.heap ha; rw [hD] at q; cases q), .inr rfl, upd_same, hr1.newL hD, .nil, rfl, Nat.zero_le _, by simpa using ec, rfl⟩, ?_⟩
  rintro i m H' ⟨φ2, χ2, h2, acc, vs, rest, x2, d1, d2, d3, hr2, ra, rfl, hi, er, ea⟩
  by_cases hlt : i < dw.1.length
  · rw [List.drop_eq_getElem_cons hlt] at er
    obtain ⟨w, o1, h3, xs, e1, e2, e3⟩ := compL_cons er
    obtain ⟨k1, _⟩ := sj φ2 χ2 H' h2 x2 hr2 w
    obtain ⟨go, k2⟩ := k1 i _ (List.getElem?_eq_getElem hlt)
    refine .inr ⟨go, _, fun H' q => ⟨dw.1.length - (i + 1), by omega, q⟩, fun x H3 y => ?_⟩
    obtain ⟨x3, hr3, rv⟩ := k2 x H3 y
    rw [← hF] at e1
    simp only [itemK, bindT] at e1
    cases et : target h2 tg dw.1[i] (killAll σ tg) with
    | none => rw [et] at e1; cases e1
    | some σ3 =>
      rw [et] at e1
      simp only at e1
      have rs3 : RS X.K φ2 χ2 H3 (killAll σ tg) (L2.wipe τ tg) := ((rs.ext (x1.trans (x2.trans x3))).wipe tg)
      have d3' : H3 Da = some (.lst vs) := x3.kp _ _ d1 d3
      -- an item is taken up
      have took : ∀ (h2 : Hh) (σ2 : L2.St) (H4 : Hp) (φ4 : List Addr) (χ4 : Ads) (z : D) (h4 : Hh), RS X.K φ4 χ4 H4 σ3 σ2 → Ext φ2 χ2 H3 φ4 χ4 H4 → HR X.K X.mg φ4 χ4 H4 l h4 → (evE l e σ3 h4).bind (fun x h => R.ok (some x) h) = .ok o1 h3 →
          tM X WF l e σ2 H4 fun y H5 => ∃ acc, H5 Da = some (.lst acc) ∧ acc.length < sizeLine ∧ ∃ φ2 χ2 h2 acc' vs rest, Ext φ1 χ1 H1 φ2 χ2 (upd H5 Da (.lst (acc ++ [y]))) ∧ Da ∉ φ2 ∧ χ2 Da ∧ (upd H5 Da (.lst (acc ++ [y]))) Da = some (.lst vs) ∧ HR X.K X.mg φ2 χ2 (upd H5 Da (.lst (acc ++ [y]))) l h2 ∧ RVs X.K φ2 χ2 (upd H5 Da (.lst (acc ++ [y]))) acc' vs ∧
            dw.1.length - (i + 1) = dw.1.length - (i + 1) ∧ i + 1 ≤ dw.1.length ∧ compL dw.2 F (dw.1.drop (i + 1)) h2 = .ok rest hf ∧ acc' ++ rest = ds := by
        intro _ σ2 H4 φ4 χ4 z h4 rs4 x4 hr4 ee
        cases ev : evE l e σ3 h4 with
        | bad => rw [ev] at ee; cases ee
        | ex c fs h' => rw [ev] at ee; cases ee
        | ok y h5 =>
          rw [ev] at ee
          simp only [R.bind_ok] at ee
          cases ee
          refine tM.to rs4 hr4 ?_
          rw [ev]
          intro φ5 χ5 H5 x5 hr5 _ _ v rv5
          have d3'' : H4 Da = some (.lst vs) := x4.kp _ _ d1 d3'
          have n4 : Da ∉ φ4 := fun ha => by have := x4.fr Da ha d1; rw [d3'] at this; cases this
          have d5 : H5 Da = some (.lst vs) := x5.kp _ _ n4 d3''
          have n5 : Da ∉ φ5 := fun ha => by have := x5.fr Da ha n4; rw [d3''] at this; cases this
          have c5 : χ5 Da := x5.sub _ (x4.sub _ d2)
          obtain ⟨xw, hr6⟩ := wr_apart (ws := vs ++ [v]) hr5 c5 n5 d5
          refine ⟨vs, d5, ?_, φ5, χ5, h3, acc ++ [y], vs ++ [v], xs, (x2.trans (x3.trans (x4.trans x5))).wr_new hD, n5, c5, upd_same, hr6, (((ra.ext x3).ext (x4.trans x5)).append (.cons rv5 .nil)).extW xw, rfl, hlt, e2, ?_⟩
          · have := congrArg List.length ea
            rw [List.length_append] at this
            have e4 := ra.length
            omega
          · rw [← ea, e3, List.append_assoc]; rfl
      refine tgM_runW (h := h2) rs3 rv et fun τ3 rs4 ew => ⟨ew.trans wipe_idem, ?_⟩
      unfold tcM
      by_cases hno : isNo c = true
      · rw [if_pos hno] at e1 ⊢
        show tM X WF l e τ3 H3 _
        exact took h2 τ3 H3 φ2 χ2 (.non) h2 rs4 .refl hr3 e1
      · rw [if_neg hno] at e1 ⊢
        cases ev : evE l c σ3 h2 with
        | bad => rw [ev] at e1; cases e1
        | ex c fs h' => rw [ev] at e1; cases e1
        | ok b h4 =>
          rw [ev] at e1
          simp only [R.bind_ok, boolV] at e1
          refine tMt.of rs4 hr3 ?_
          rw [ev]
          intro φ4 χ4 H4 x4 hr4
          cases b with
          | bl k =>
            refine ⟨k, rfl, fun _ => ?_⟩
            cases k with
            | true => exact took h2 τ3 H4 φ4 χ4 .non _ (rs4.ext x4) x4 hr4 e1
            | false =>
              have e1 : R.ok none h4 = R.ok o1 h3 := e1
              cases e1
              refine ⟨φ4, χ4, _, acc, vs, xs, x2.trans (x3.trans x4), fun ha => ?_, x4.sub _ d2, x4.kp _ _ d1 d3', hr4, (ra.ext x3).ext x4, rfl, hlt, e2, by rw [← ea, e3]⟩
              have := x4.fr Da ha d1
              rw [d3'] at this; cases this
          | _ => cases e1
  · have ei : i = dw.1.length := by omega
    subst ei
    rw [List.drop_length] at er
    obtain ⟨w, rfl, rfl⟩ := compL_nil er
    obtain ⟨_, k2⟩ := sj φ2 χ2 H' hf x2 hr2 w
    rw [List.append_nil] at ea
    subst ea
    exact .inl ⟨k2, g _ _ _ x2 hr2 _ (.new rfl d2 d1 (x1.back hr1 hr hD) d3 ra)⟩
theorem m_comp {elt tgx iter : Expr} {ifs : List Expr} {scope : Scope} {own : List (Str × Nat)} {pos : Pos} {e c : E} {tg : List Nat} {src : Mp.It} (hc : X.calm = true) (hN : X.N.Nodup) (hi : PI X tgx iter (iM X W l src)) (ok : BlkOk X.N X.env.scope scope own) (ho : own.map (·.2) = tg)
    (hg : ∀ (s : Shared) (H : Hp) (C : Addr) (cl : List (Str × Addr)) (fp : List Addr), PG (X.blk s H scope (compEnvC scope cl C X.env) fp) tgx (tgM X.K tg)) (ht : ∀ (s : Shared) (H : Hp) (C : Addr) (cl : List (Str × Addr)) (fp : List Addr), PTs (X.blk s H scope (compEnvC scope cl C X.env) fp) ifs (tcM X l c))
    (he : ∀ (s : Shared) (H : Hp) (C : Addr) (cl : List (Str × Addr)) (fp : List Addr), PE (X.blk s H scope (compEnvC scope cl C X.env) fp) elt (tM X WF l e)) (hs : ∀ x, foldedSetIterable iter X.env x = pure x) :
    PE X (.ListComp elt [⟨tgx, iter, ifs, 0⟩] scope pos) (tM X W l (.comp e tg src c)) :=
  peImp (pe_lc hc hN hi ok hg ht he hs) fun τ H Q q => by rw [ho]; exact comp_run q
theorem m_setComp {i : Nat} {y : Str} {py : Pos} {elt tgx iter : Expr} {ifs : List Expr} {scope : Scope} {own : List (Str × Nat)} {pos spos : Pos} {e c : E} {tg : List Nat} {src : Mp.It} (hc : X.calm = true) (hN : X.N.Nodup) (hy : X.N[i]? = some y) (hyl : X.env.scope.names.lookup y = some .local)
    (hsw : swapsWith (.ListComp elt [⟨tgx, iter, ifs, 0⟩] scope pos) (some (.Name y py)) spos.line X.env = pure true) (hi : PI X tgx iter (iM X W l src)) (ok : BlkOk X.N X.env.scope scope own) (ho : own.map (·.2) = tg)
    (hg : ∀ (s : Shared) (H : Hp) (C : Addr) (cl : List (Str × Addr)) (fp : List Addr), PG (X.blk s H scope (compEnvC scope cl C X.env) fp) tgx (tgM X.K tg)) (ht : ∀ (s : Shared) (H : Hp) (C : Addr) (cl : List (Str × Addr)) (fp : List Addr), PTs (X.blk s H scope (compEnvC scope cl C X.env) fp) ifs (tcM X l c))
    (he : ∀ (s : Shared) (H : Hp) (C : Addr) (cl : List (Str × Addr)) (fp : List Addr), PE (X.blk s H scope (compEnvC scope cl C X.env) fp) elt (tM X WF l e)) (hs : ∀ x, foldedSetIterable iter X.env x = pure x) :
    PS X (.Assign [.Name y py] (.ListComp elt [⟨tgx, iter, ifs, 0⟩] scope pos) spos) (tMS X W l (.set i (.comp e tg src c))) :=
  psImp (ps_setLc hc hN hy hyl hsw hi ok hg ht he hs) fun D τ H ⟨φ, χ, σ, h, rs, hr, o⟩ => by
    unfold exS at o
    rw [ho]
    exact comp_run (tM.st rs hr o fun φ' χ' H' d h' v x hr' rv rs' g => g.nx hr' (rs'.set i rv))
end
end Mp

set_option maxRecDepth 100000
/-! Mp4a: defs and their calls. -/
namespace Mp
open PySem PySem.Spec PyProof.Rows L2

/-- a call's outcome, as its caller sees it -/
def OutK (K : PySem.W.Frag) (mg : Str → Option Value) (E : XK) (l : List Nat) (φ : List Addr) (χ : Ads) (H : Hp) (r : R D) (Q : VK) : Prop := match r with
  | .ok d h' => ∀ φ' χ' H', Ext φ χ H φ' χ' H' → HR K mg φ' χ' H' l h' → ∀ v, RV K φ' χ' H' d v → Q v H'
  | .ex c fs h' => ∀ φ' χ' H' cls dd, Ext φ χ H φ' χ' H' → HR K mg φ' χ' H' l h' → XV K mg φ' χ' H' c fs cls dd → E cls dd H'
  | .bad => False
/-- a def's promise -/
def spM (K : PySem.W.Frag) (mg : Str → Option Value) (l : List Nat) (f : Fn) : Sp := fun vs H Q E =>
  ∃ φ χ h ds, RVs K φ χ H ds vs ∧ HR K mg φ χ H l h ∧ OutK K mg E l φ χ H (callF l f ds h) Q
def Fn.np : Fn → Nat
  | .mk np _ _ _ => np
def Fn.ns : Fn → Nat
  | .mk _ ns _ _ => ns
def Fn.keep : Fn → Bool
  | .mk _ _ k _ => k
def Fn.body : Fn → SL
  | .mk _ _ _ b => b
/-- it runs as its term says, k calls deep at most -/
structure FnG (P : Program) (w : World) (K : PySem.W.Frag) (mg : Str → Option Value) (base : Heap) (k : Nat) (a : Addr) (fd : FuncData) (ps : List Str) (f : Fn) : Prop where
  np : f.np = ps.length
  go : ∀ (l : List Nat) (A : Around) (outer : List Env) (s : Shared) (H : Hp) (args : Args) (us : List Value) (vs : List V) (Q : VK) (E : XK), Room k A → A.guards = some [] → Env0 P w K mg base A outer s H →
    BindsTo s fd args (ps.zip us) → Vals vs us → spM K mg l f vs H Q E → codeAny (model P w) A (.call (.ref a) args) (CR (L2.CX P w) outer P w H s Q E) s
section
variable {P : Program} {w : World} {K : PySem.W.Frag} {mg : Str → Option Value} {base : Heap} {k j : Nat} {a : Addr} {fd : FuncData} {ps : List Str} {f : Fn}
theorem FnG.mono (g : FnG P w K mg base j a fd ps f) (hjk : j ≤ k) : FnG P w K mg base k a fd ps f :=
  ⟨g.np, fun l A outer s H args us vs Q E room gu e0 bt rv h => g.go l A outer s H args us vs Q E (room.mono hjk) gu e0 bt rv h⟩
end
/-- a name that holds a def -/
structure CallOk (P : Program) (w : World) (K : PySem.W.Frag) (mg : Str → Option Value) (base : Heap) (k : Nat) (x : String) (f : Fn) : Prop where
  ex : ∃ (a : Addr) (fd : FuncData) (ps : List Str), mg (Str.ofString x) = some (.ref a) ∧ PySem.W.keepIn K (.ref a) = true ∧ Binds K fd ps [] ∧ FnG P w K mg base k a fd ps f

section
variable {X : Cx} {W : WX} {l : List Nat} {τ : L2.St} {φ φ' φ1 : List Addr} {χ χ' χ1 : Ads} {H H' H1 H0 : Hp} {h h' : Hh} {α β : Type} {K : PySem.W.Frag} {mg : Str → Option Value} {k : Nat}
theorem callF_np {f : Fn} {ds : List D} (e : callF l f ds h ≠ .bad) : ds.length = f.np := by
  cases f with
  | mk np ns keep body =>
    unfold callF at e
    split at e
    · rename_i q; exact q.1
    · exact absurd rfl e
theorem OutK.ok {E : XK} {r : R D} {Q : VK} (o : OutK K mg E l φ χ H r Q) : r ≠ .bad := by
  rintro rfl
  exact o
theorem run_g {a : Addr} {fd : FuncData} {ps : List Str} {f : Fn} (g : FnG X.prog X.w X.K X.mg X.base k a fd ps f) (room : Room k X.A) (gu : X.A.guards = some []) (bd : Binds X.K fd ps []) (tk : Takes X W)
    {pins : List (Addr × Obj)} {s : Shared} {Q : VK} {us : List Value} {vs : List V} (I : Inv X pins τ H s) (rv : Vals vs us) (sp : spM X.K X.mg l f vs H Q (WE W τ)) : wpAny (model X.prog X.w) X.A (call (.ref a) us) (EP X pins τ Q) X.xe s := by
  have hl : us.length = ps.length := by
    obtain ⟨φ, χ, h, ds, rvs, _, o⟩ := sp
    rw [← rv.length, ← rvs.length, callF_np o.ok, g.np]
  have bt := bd s us I.kIn (by simpa using hl)
  simp only [List.append_nil] at bt
  refine wpAny_call (codeAny_mono (g.go l X.A X.stack s H ⟨us, []⟩ us vs Q (WE W τ) room gu I.env0 bt rv sp) fun r s' out => ?_)
  match r, out with
  | .error e, out => exact passAt tk τ pins H s e s' I out
  | .ok (.ret u), out => exact I.after out
def tCallG (X : Cx) (W : WX) (l : List Nat) (f : Fn) (t : TA) : TE := fun σ H Q => t σ H fun vs H1 => spM X.K X.mg l f vs H1 Q (WE W σ)
theorem tM.call {x : String} {f : Fn} {es : EL} : ∀ τ H Q, tM X W l (.call x f es) τ H Q → tCallG X W l f (tMs X W l es) τ H Q := by
  intro τ H Q ⟨φ, χ, σ, h, rs, hr, o⟩
  unfold evE at o
  refine tMs.of rs hr (o.bind.mono fun φ1 χ1 H1 ds h1 _ x1 _ g1 _ hr1 vs rvs => ⟨φ1, χ1, h1, ds, rvs, hr1, ?_⟩)
  cases e : callF l f ds h1 with
  | bad => rw [e] at g1; exact g1
  | ex c fs h' => rw [e] at g1; exact g1
  | ok d h' =>
    rw [e] at g1
    exact fun φ' χ' H' x2 hr2 v rv => g1 φ' χ' H' x2 hr2 v (.plain rv fun q => nomatch q)
theorem m_call {x : String} {f : Fn} {es : EL} {p pos : Pos} {e : Expr} {as : List Expr} (c : CallOk X.prog X.w X.K X.mg X.base k x f) (room : Room k X.A) (gu : X.A.guards = some []) (tk : Takes X W) (hg : Gl X (Str.ofString x)) (hd : (Str.ofString x == ("__debug__" : Str)) = false)
    (ha : PA X (e :: as) (tMs X W l es)) (he : starEach (e :: as) X.env = (false, eval e X.env) :: starEach as X.env) (hpl : (backTo pos (starEach as X.env)).any (·.1) = false) : PE X (.Call (.Name (Str.ofString x) p) (e :: as) [] pos) (tM X W l (.call x f es)) := by
  obtain ⟨a, fd, ps, hm, hk, bd, g⟩ := c.ex
  refine peImp (t := tCallG X W l f (tMs X W l es)) ⟨fun pins s σ H Q I q => ?_⟩ tM.call
  exact wpAny_Call_Name_kw (ld_glob I hg hm (PySem.W.callWith_K (h₀ := X.base) I.ok.mod.kin hk (thn (ha.run pos pins s σ H _ I q) fun us s1 ⟨vs, H1, I1, rv, sp⟩ => ⟨I1.kIn, run_g g room gu bd tk I1 rv sp⟩) he hpl) hd)
theorem m_call0 {x : String} {f : Fn} {p pos : Pos} (c : CallOk X.prog X.w X.K X.mg X.base k x f) (room : Room k X.A) (gu : X.A.guards = some []) (tk : Takes X W) (hg : Gl X (Str.ofString x)) (hd : (Str.ofString x == ("__debug__" : Str)) = false) :
    PE X (.Call (.Name (Str.ofString x) p) [] [] pos) (tM X W l (.call x f .nil)) := by
  obtain ⟨a, fd, ps, hm, hk, bd, g⟩ := c.ex
  refine peImp (t := tCallG X W l f (tMs X W l .nil)) ⟨fun pins s σ H Q I q => ?_⟩ tM.call
  have sp : spM X.K X.mg l f [] H Q (WE W σ) := by
    obtain ⟨φ, χ, σ', h, rs, hr, o⟩ := q
    unfold evL at o
    exact o _ _ _ .refl hr [] .nil
  exact wpAny_Call_Name_kw (ld_glob I hg hm (PySem.W.callWith_K0 I.kIn hk (run_g (us := []) g room gu bd tk I .nil sp)) hd)

/-! ### a def keeps its promise -/
theorem unds_of (hr : HR K mg φ χ H l h) : ∀ (n : Nat) (ds : List D), h[n]? = some (.lst ds) → D.unds h.length ds = true := fun n ds e => by
  have hn := (List.getElem?_eq_some_iff.mp e).1
  obtain ⟨a, ha⟩ : ∃ a, φ[n]? = some a := ⟨φ[n]'(by rw [hr.len]; exact hn), List.getElem?_eq_getElem _⟩
  cases hr.ob n a _ ha e with
  | lst _ r => rw [← hr.len]; exact r.und
/-- within: a region of its own -/
theorem HR.enter (hr : HR K mg φ χ H l h) : HR K mg φ χ H (h.length :: l) h := by
  refine ⟨hr.len, hr.nd, hr.sub, hr.ob, fun b hb n o hn e => ?_, fun b hb => ?_, hr.ch⟩
  · rcases List.mem_cons.mp hb with q | q
    · subst q
      have hn' := (List.getElem?_eq_some_iff.mp e).1
      obtain ⟨a, ha⟩ : ∃ a, φ[n]? = some a := ⟨φ[n]'(by rw [hr.len]; exact hn'), List.getElem?_eq_getElem _⟩
      cases hr.ob n a _ ha e with
      | lst _ r => show D.unds h.length _ = true; rw [← hr.len]; exact r.und
      | ins _ _ e3 r => exact fun p hp => unds_all.mp (by rw [← hr.len]; exact r.und) p.2 (List.mem_map_of_mem hp)
    · exact hr.lim b q n o hn e
  · rcases List.mem_cons.mp hb with q | q
    · rw [q]; exact Nat.le_refl _
    · exact hr.top b q
theorem OV.old {b : Nat} (hb : φ'.take b = φ.take b) {o : Ob} {a : Addr} (v : OV K mg φ χ H o a) (u : o.und b) : OV K mg φ' χ H o a := by
  cases v with
  | lst e r => exact .lst e (r.old hb u)
  | ins e1 e2 e3 r => exact .ins e1 e2 e3 (r.old hb (unds_all.mpr fun d hd => by
      obtain ⟨p, hp, rfl⟩ := List.mem_map.mp hd
      exact u p hp))
/-- behind it: what is its own is let go (a list that is told is kept from the rest) -/
theorem HR.leave {b : Nat} (hr : HR K mg φ' χ' H' (b :: l) h') (hp : φ' = φ ++ r) (hl : φ.length = b) (χ2 : Ads) (h2 : ∀ a, χ2 a → χ' a) (h3 : ∀ a ∈ φ, χ2 a) (htop : ∀ c ∈ l, c ≤ b) : HR K mg φ χ2 H' l (h'.take b) := by
  have hlen := hr.len
  have tk : φ'.take b = φ := by rw [hp, ← hl, List.take_left]
  have hb : b ≤ h'.length := hr.top b (by simp)
  have tk2 : φ.take b = φ'.take b := by rw [tk, ← hl, List.take_length]
  refine ⟨by rw [List.length_take, hl]; omega, by rw [← tk]; exact hr.nd.sublist (List.take_sublist _ _), h3, fun n a o e1 e2 => ?_, fun c hc n o hn e => ?_, fun c hc => ?_, fun a q => hr.ch a (h2 a q)⟩
  · have hn : n < b := by rw [← hl]; exact (List.getElem?_eq_some_iff.mp e1).1
    rw [List.getElem?_take_of_lt hn] at e2
    have e1' : φ'[n]? = some a := by rw [hp, List.getElem?_append_left (by omega)]; exact e1
    exact ((hr.ob n a o e1' e2).old tk2 (hr.lim b (by simp) n o hn e2)).less h2
  · have hnb : n < b := Nat.lt_of_lt_of_le hn (htop c hc)
    rw [List.getElem?_take_of_lt hnb] at e
    exact hr.lim c (by simp [hc]) n o hn e
  · rw [List.length_take]
    have := htop c hc
    omega
theorem Ext.leave {b : Nat} (x : Ext φ χ H φ' χ' H') (χ2 : Ads) (h1 : ∀ a, χ a → χ2 a) (h2 : ∀ a, χ2 a → χ' a) : Ext φ χ H φ χ2 H' :=
  ⟨⟨⟨[], by simp⟩, h1, fun a q n => x.new a (h2 a q) n, x.keep, x.tups, x.frl⟩, x.kp, fun a q n => absurd q n⟩
theorem start_rs {np ns : Nat} {N : List Str} {ds : List D} {vs : List V} (r : RVs K φ χ H ds vs) (hN : N.length = ns) (hl : ds.length = np) (hle : np ≤ ns) : RS K φ χ H (ds.map some ++ List.replicate (ns - np) none) (L2.start N vs) := by
  have hv := r.length
  refine ⟨by unfold L2.start; simp; omega, fun i d e => ?_⟩
  by_cases hi : i < ds.length
  · rw [List.getElem?_append_left (by simpa using hi), List.getElem?_map] at e
    cases ed : ds[i]? with
    | none => rw [ed] at e; cases e
    | some d' =>
      rw [ed] at e
      cases e
      obtain ⟨v, e1, rv⟩ := r.get ed
      exact ⟨v, by unfold L2.start; rw [List.getElem?_append_left (by simp; omega), List.getElem?_map, e1]; rfl, rv⟩
  · rw [List.getElem?_append_right (by simpa using hi)] at e
    rw [List.getElem?_replicate] at e
    split at e <;> cases e
/-- behind the body -/
theorem fin_out {keep : Bool} {E : XK} {Q : VK} {r : R Fl} {D : Ends} {W' : WX} (hr : HR X.K X.mg φ χ H l h) (eW : ∀ cls dd τ H, E cls dd H → W' cls dd τ H) (eD : D.nx = fun _ H' => Q .non H') (eR : D.rt = Q)
    (o : OutK X.K X.mg E l φ χ H (endF keep h.length r) Q) : OutS X W' (if keep = true then l else h.length :: l) φ χ H r D := by
  cases keep with
  | true =>
    cases r with
    | bad => exact o
    | ex c fs h' => exact o
    | ok fl h' =>
      intro φ' χ' H' x hr'
      cases fl with
      | nx σ => intro τ _; rw [eD]; exact o φ' χ' H' x hr' _ .non
      | rt d => intro v rv; rw [eR]; exact o φ' χ' H' x hr' v rv
      | xc c fs σ => intro τ cls dd _ xv; exact eW _ _ _ _ (o φ' χ' H' cls dd x hr' xv)
  | false =>
    cases r with
    | bad => exact o
    | ex c fs h' => exact o
    | ok fl h' =>
      intro φ' χ' H' x hr'
      obtain ⟨rest, hp⟩ := x.pre
      have tk : φ'.take h.length = φ := by rw [hp, ← hr.len, List.take_left]
      have back : φ.take h.length = φ'.take h.length := by rw [tk, ← hr.len, List.take_length]
      have sub' : ∀ a ∈ φ, χ' a := fun a ha => x.sub a (hr.sub a ha)
      have hrF : HR X.K X.mg φ χ' H' l (h'.take h.length) := HR.leave (φ := φ) hr' hp hr.len χ' (fun _ q => q) sub' hr.top
      have xF : Ext φ χ H φ χ' H' := x.leave (b := 0) χ' x.sub (fun _ q => q)
      have val : ∀ (d : Mp.D) (v : V), RV X.K φ' χ' H' d v → OutK X.K X.mg E l φ χ H (fin false h.length d h') Q → Q v H' := by
        intro d v rv o
        unfold fin at o
        simp only [Bool.false_eq_true, if_false] at o
        split at o
        · rename_i hu
          exact o φ χ' H' xF hrF v (rv.old back hu)
        · split at o
          · rename_i n hne
            split at o
            · rename_i ds e
              split at o
              · rename_i hu
                cases rv with
                | @ref _ a q =>
                  obtain ⟨ws, ha, s⟩ := hr'.getL q e
                  have hn : h.length ≤ n := by
                    by_cases hlt : n < h.length
                    · exact absurd (by simpa [Mp.D.und] using hlt) hne
                    · omega
                  have na : a ∉ φ := fun hm => by
                    obtain ⟨i, hi, ei⟩ := List.mem_iff_getElem.mp hm
                    have e1 : φ'[i]? = some a := by rw [hp, List.getElem?_append_left hi, List.getElem?_eq_getElem hi, ei]
                    obtain ⟨l1, q1⟩ := List.getElem?_eq_some_iff.mp q
                    obtain ⟨l2, q2⟩ := List.getElem?_eq_some_iff.mp e1
                    have := (List.getElem_inj hr'.nd).mp (q1.trans q2.symm)
                    have := hr.len
                    omega
                  have nc : ¬ χ a := fun hc => hr.ch a hc (x.fr a (List.mem_of_getElem? q) na)
                  have hr2 : HR X.K X.mg φ (fun b => χ' b ∧ b ≠ a) H' l (h'.take h.length) := HR.leave (φ := φ) hr' hp hr.len _ (fun _ q => q.1) (fun b hb => ⟨sub' b hb, fun e => na (e ▸ hb)⟩) hr.top
                  exact o φ _ H' (x.leave (b := 0) _ (fun b hb => ⟨x.sub b hb, fun e => nc (e ▸ hb)⟩) fun _ q => q.1) hr2 _ (.lst (fun q => q.2 rfl) ha ((s.old back hu).less fun _ q => q.1))
              · exact o.elim
            · exact o.elim
          · exact o.elim
      cases fl with
      | nx σ => intro τ _; rw [eD]; exact val .non .non .non o
      | rt d => intro v rv; rw [eR]; exact val d v rv o
      | xc c fs σ =>
        intro τ cls dd _ xv
        have o : OutK X.K X.mg E l φ χ H (if Mp.D.unds h.length fs = true then R.ex c fs (h'.take h.length) else .bad) Q := o
        split at o
        · rename_i hu
          refine eW _ _ _ _ (o φ χ' H' cls dd xF hrF ⟨xv.cl, ?_⟩)
          rcases xv.fl with q | ⟨a, vs, e1, e2, e3, e4, e5⟩
          · exact .inl q
          · exact .inr ⟨a, vs, e1, e2, e3, e4.old back hu, e5⟩
        · exact o.elim
end
section
variable {P : Program} {w : World} {K : PySem.W.Frag} {mg : Str → Option Value} {base : Heap} {k : Nat} {f : Addr} {fd : FuncData} {x qual : Str} {st : Stmt} {N ps : List Str} {np ns : Nat} {keep : Bool} {sb : SL}
theorem fnG_of (F : Fun K x qual st f fd) (S : FnScope N ps (defScope st)) (hN : N.length = ns) (hp : ps.length = np)
    (hbody : ∀ (l : List Nat) (cdv : Value) (A : Around) (outer : List Env) (s : Shared) (H : Hp) (E : XK), Room k (A.deeper (envOfC qual (defScope st) s.heap.objs.size f cdv)) → (A.deeper (envOfC qual (defScope st) s.heap.objs.size f cdv)).guards = some [] →
      PSs (cxOf (L2.CX P w) P w K mg base N qual (defScope st) f cdv A outer s H E) (defBody st) (tML (cxOf (L2.CX P w) P w K mg base N qual (defScope st) f cdv A outer s H E) (fun cls dd _ H => E cls dd H) l sb)) :
    FnG P w K mg base (k + 1) f fd ps (.mk np ns keep sb) := by
  obtain ⟨oc, od, kV, doc, pm, an, cdv, ct, osl, rfl, lk, hcd⟩ := F.ex
  refine ⟨hp.symm, fun l A outer s H args us vs Q E room gu e0 bt rv sp => ?_⟩
  obtain ⟨φ, χ, h, ds, rvs, hr, o⟩ := sp
  have len : ds.length = np := callF_np (f := .mk np ns keep sb) (OutK.ok o)
  unfold callF at o
  have cond : ds.length = np ∧ np ≤ ns := by
    split at o
    · assumption
    · exact o.elim
  rw [if_pos cond] at o
  have hlv : vs.length = ps.length := by rw [← rvs.length, len, hp]
  have kin : K.In s.heap := e0.mod.kin.keeps fun b u q => (e0.bs b u q).1
  have nolim : s.heap.NoLimit := e0.mod.nolimit.keeps fun b u q => (e0.bs b u q).1
  have kinds : ∀ y ∈ ps.zip us, (defScope st).names.lookup y.1 = some .local ∨ ((defScope st).names.lookup y.1 = some .cell ∧ ((cellsFrom (s.heap.objs.size + 1) (defScope st).names []).lookup y.1).isSome = true) := by
    intro ⟨n, u⟩ hy
    exact (S.par n (List.of_mem_zip hy).1).imp id fun q => ⟨q, PySem.W.cellsFrom_some _ _ _ (.inl q)⟩
  refine codeAny_call_function room.depth (kin _ _ lk) rfl S.co S.gen rfl (PySem.W.codeRec_of kin hcd) (bt _ _ _ _ ?_)
  refine wpAny_newFunctionEnv_cells S.kind kinds fun env he s1 ic => ?_
  subst he
  refine ⟨nolim.keeps ic.toInCall.keep, codeAny_func ?_⟩
  have I : Inv (cxOf (L2.CX P w) P w K mg base N qual (defScope st) f cdv A outer s H E) [] (L2.start N vs) H s1 := inv_start S room.hd e0 hlv rv ic
  have body := hbody (if keep = true then l else h.length :: l) cdv A outer s H E (room.deeper _) gu
  have rs0 := start_rs rvs hN len cond.2
  have hr0 : HR K mg φ χ H (if keep = true then l else h.length :: l) h := by
    cases keep with
    | true => exact hr
    | false => exact hr.enter
  have q0 := fin_out (X := cxOf (L2.CX P w) P w K mg base N qual (defScope st) f cdv A outer s H E) (W' := fun cls dd _ H => E cls dd H) (D := { nx := fun _ H' => Q .non H', rt := Q }) hr (fun _ _ _ _ q => q) rfl rfl o
  refine wpAny_mono (body.run [] s1 (L2.start N vs) H _ I ⟨φ, χ, _, h, rs0, hr0, q0⟩) (fun fl s' ends => ?_) fun _ _ q => q
  cases fl with
  | next =>
    obtain ⟨_, _, J, q⟩ := ends
    exact ⟨V.non, _, J.os, J.bare, J.base, J.hok, rfl, q⟩
  | brk => obtain ⟨_, _, _, q⟩ := ends; exact q.elim
  | cont => obtain ⟨_, _, _, q⟩ := ends; exact q.elim
  | ret u =>
    obtain ⟨_, _, _, J, r, q⟩ := ends
    exact ⟨_, _, J.os, J.bare, J.base, J.hok, r, q⟩
end
end Mp

set_option maxRecDepth 100000
/-! Mp4b: a def's text, held against its term, by a program: the checks. -/
namespace Mp
open PySem PySem.Spec PyProof.Rows L2

structure Ce where
  N : List Str
  sc : Scope
  fn : Str → Bool
def nst : Expr → Bool
  | .Starred _ _ => false
  | _ => true
def glC (sc : Scope) (x : Str) : Bool := match sc.names.lookup x with
  | some .globalImplicit => true
  | _ => false
def visC (sc : Scope) (x : Str) : Bool := match sc.names.lookup x with
  | some .local => true | some .cell => true | some .free => true
  | _ => false
def locC (sc : Scope) (x : Str) : Bool := match sc.names.lookup x with
  | some .local => true
  | _ => false
def celC (sc : Scope) (x : Str) : Bool := match sc.names.lookup x with
  | some .cell => true
  | _ => false
/-- a name that may be stored to, at its slot -/
def slotC (Γ : Ce) (x : Str) (i : Nat) : Bool := decide (Γ.N[i]? = some x) && (locC Γ.sc x || (celC Γ.sc x && Γ.fn x))
def bopOf : Operator → Option Bop
  | .Add => some .add | .Sub => some .sub | .Mult => some .mul | .Mod => some .mod | .FloorDiv => some .fdiv | .Pow => some .pow
  | _ => none
def copOf : CmpOp → Option Cop
  | .Eq => some .eq | .NotEq => some .ne | .Lt => some .lt | .LtE => some .le | .Gt => some .gt | .GtE => some .ge | .In => some .inn | .NotIn => some .nin
  | _ => none
def plainIx : Expr → Bool
  | .Slice _ _ _ _ => false
  | _ => true
/-- what isTrue asks by its value -/
def plainT : Expr → Bool
  | .UnaryOp .Not _ _ => false
  | .BoolOp _ _ _ => false
  | .IfExp _ _ _ _ => false
  | .Compare _ _ _ _ => false
  | _ => true
def noSet : Expr → Bool
  | .Set _ _ _ => false
  | _ => true
def noTup : Expr → Bool
  | .Tuple _ _ _ => false
  | _ => true
/-- no comprehension -/
def noLc : Expr → Bool
  | .ListComp _ _ _ _ => false
  | .SetComp _ _ _ _ => false
  | .DictComp _ _ _ _ _ => false
  | _ => true
def noCall : Expr → Bool
  | .Call _ _ _ _ => false
  | _ => true
def nameIs (sc : Scope) (x : String) : Expr → Bool
  | .Name y _ => decide (y = Str.ofString x) && glC sc y && !(y == ("__debug__" : Str))
  | _ => false
def Blt.name : Blt → String
  | .len => "len" | .abs => "abs" | .min2 => "min" | .max2 => "max" | .minL => "min" | .maxL => "max" | .sum => "sum" | .all => "all" | .any => "any"
  | .tuple => "tuple" | .list => "list" | .listR1 => "list" | .listR2 => "list" | .tupR1 => "tuple" | .tupR2 => "tuple"
  | .sorted => "sorted" | .sortedSet => "sorted" | .lenSet => "len" | .int => "int" | .str => "str" | .repr => "repr"
/-- a name called upon these -/
def call1C (sc : Scope) (x : String) : Expr → Option (List Expr)
  | .Call f (a :: as) [] _ => if nameIs sc x f && nst a && as.all nst then some (a :: as) else none
  | _ => none
def call2C (sc : Scope) (x y : String) (v : Expr) : Option (List Expr) := match call1C sc x v with
  | some [w] => call1C sc y w
  | _ => none
def bltC (sc : Scope) (b : Blt) (v : Expr) : Option (List Expr) := match b with
  | .listR1 => (call2C sc "list" "range" v).bind fun as => if as.length = 1 then some as else none
  | .listR2 => (call2C sc "list" "range" v).bind fun as => if as.length = 2 then some as else none
  | .tupR1 => (call2C sc "tuple" "range" v).bind fun as => if as.length = 1 then some as else none
  | .tupR2 => (call2C sc "tuple" "range" v).bind fun as => if as.length = 2 then some as else none
  | .sortedSet => none
  | .lenSet => none
  | b => call1C sc b.name v
/-- classes: one, or a tuple of them -/
def tysL (sc : Scope) : List Ty → List Expr → Bool
  | [], [] => true
  | t :: ts, e :: es => nameIs sc (tyName t) e && bTy t && tysL sc ts es
  | _, _ => false
def tysC (sc : Scope) (ts : List Ty) : Expr → Bool
  | .Tuple es _ _ => decide (ts ≠ []) && decide (ts.length ≤ 100) && tysL sc ts es
  | e => match ts with
    | [t] => nameIs sc (tyName t) e && bTy t
    | _ => false
def Bm.name : Bm → String
  | .append => "append" | .extend => "extend" | .insert => "insert" | .pop => "pop" | .popAt => "pop" | .remove => "remove" | .reverse => "reverse" | .index => "index" | .join => "join"
def Bm.ar : Bm → Nat
  | .append => 1 | .extend => 1 | .insert => 2 | .pop => 0 | .popAt => 1 | .remove => 1 | .reverse => 0 | .index => 1 | .join => 1
/-- those that have a rule here -/
def bmIn : Bm → Bool
  | .remove => false | .index => false | .join => false
  | _ => true
def bmC (m : Bm) : Expr → Option (Expr × List Expr)
  | .Call (.Attribute o x ap) as [] cp => if bmIn m && decide (x = Str.ofString m.name) && noCall o && (ap.endLine == cp.line) && as.all nst && decide (as.length = m.ar) then some (o, as) else none
  | _ => none
def nmOf : Expr → Option Str
  | .Name x _ => some x
  | _ => none
def slotsC (Γ : Ce) : List Expr → List Nat → Bool
  | [], [] => true
  | e :: es, i :: is => (match nmOf e with | some x => slotC Γ x i | none => false) && slotsC Γ es is
  | _, _ => false
def tgNames : Expr → List Str
  | .Name x _ => [x]
  | .Tuple es _ _ => es.filterMap nmOf
  | _ => []
def tgC (Γ : Ce) (v : Expr) (tg : List Nat) : Bool := match v with
  | .Name x _ => match tg with
    | [i] => slotC Γ x i
    | _ => false
  | .Tuple es _ _ => decide (2 ≤ tg.length) && slotsC Γ es tg
  | _ => false
def blkCe (Γ : Ce) (scope : Scope) : Ce := ⟨Γ.N, relS scope Γ.sc, fun x => scope.names.lookup x == some .cell⟩
/-- the exchange of a comprehension's name and its value -/
def swapC (sc : Scope) (x : Str) (p : Pos) : Expr → Bool
  | .ListComp _ _ s q => (sc.names.lookup x == some .local) && (p.line == q.line) && !(s.names.any fun (n, k) => n == x && (k == .local || k == .cell))
  | _ => false
/-- a, b = x, y stored from the right -/
def parC (sc : Scope) (x y : Str) (px py : Pos) (a b : Expr) : Bool :=
  locC sc x && locC sc y && (px.line == py.line) && !(x == y) && !(foldedForSure 8 a && foldedForSure 8 b) && !(constantsAlone 8 a && constantsAlone 8 b) && nst a && nst b
/-- .. stored as any tuple is -/
def unpC (sc : Scope) (ts : List Expr) (v : Expr) : Bool := match v with
  | .Tuple vs _ _ => !(ts.length == 2 || ts.length == 3) || vs.all (foldedForSure 8) || ts.any fun t => (match nmOf t with | some x => !(locC sc x) | none => true)
  | .ListComp _ _ _ _ => true
  | v => noLc v

def isLc : E → Bool
  | .comp _ _ _ _ => true
  | .alloc (.comp _ _ _ _) => true
  | _ => false

mutual
def chkE (t : Bool) (Γ : Ce) : E → Expr → Bool
  | .no, _ => false
  | .var i, v => match v with
    | .Name x _ => decide (Γ.N[i]? = some x) && visC Γ.sc x && !(x == ("__debug__" : Str)) && !(x == ("__classdict__" : Str))
    | _ => false
  | .cst d, v => match v with
    | .Constant c _ _ => match d, c with
      | .non, .none => true
      | .bl a, .bool b => decide (a = b)
      | .int a, .int b => decide (a = b)
      | .str a, .str b => decide (a = b)
      | _, _ => false
    | _ => false
  | .glob x _, v => nameIs Γ.sc x v
  | .bop o a b, v => match v with
    | .BinOp x op y _ => decide (bopOf op = some o) && chkE false Γ a x && chkE false Γ b y
    | _ => false
  | .neg a, v => match v with
    | .UnaryOp .USub x _ => chkE false Γ a x
    | _ => false
  | .not a, v => match v with
    | .UnaryOp .Not x _ => chkE t Γ a x
    | _ => false
  | .and a b, v => match v with
    | .BoolOp .And (x :: y :: r) p => chkE t Γ a x && chkE t Γ b (match r with | [] => y | z :: r => .BoolOp .And (y :: z :: r) p)
    | _ => false
  | .or a b, v => match v with
    | .BoolOp .Or (x :: y :: r) p => chkE t Γ a x && chkE t Γ b (match r with | [] => y | z :: r => .BoolOp .Or (y :: z :: r) p)
    | _ => false
  | .cmp o a b, v => match v with
    | .Compare x [op] [y] _ => decide (copOf op = some o) && !(behindInMarks op y) && chkE false Γ a x && chkE false Γ b y
    | _ => false
  | .chain o p a b c, v => match v with
    | .Compare x [op, oq] [y, z] _ => decide (copOf op = some o) && decide (copOf oq = some p) && !(behindInMarks oq z) && chkE false Γ a x && chkE false Γ b y && chkE false Γ c z
    | _ => false
  | .isN a, v => match v with
    | .Compare x [.Is] [.Constant .none _ _] _ => chkE false Γ a x
    | _ => false
  | .notN a, v => match v with
    | .Compare x [.IsNot] [.Constant .none _ _] _ => chkE false Γ a x
    | _ => false
  | .isB a b, v => match v with
    | .Compare x [.Is] [.Constant (.bool c) _ _] _ => decide (b = c) && chkE false Γ a x
    | _ => false
  | .notB a b, v => match v with
    | .Compare x [.IsNot] [.Constant (.bool c) _ _] _ => decide (b = c) && chkE false Γ a x
    | _ => false
  | .ite c a b, v => match v with
    | .IfExp z x y _ => !t && chkE true Γ c z && chkE false Γ a x && chkE false Γ b y
    | _ => false
  | .tup es, v => match v with
    | .Tuple as _ _ => chkL Γ es as
    | _ => false
  | .lst es, v => match v with
    | .List as _ => chkL Γ es as
    | _ => false
  | .ix a b, v => match v with
    | .Subscript x y _ => plainIx y && chkE false Γ a x && chkE false Γ b y
    | _ => false
  | .sl a lo hi, v => match v with
    | .Subscript x (.Slice l h none _) _ => chkE false Γ a x && (match l with | none => isNo lo | some y => !(isNo lo) && chkE false Γ lo y) && (match h with | none => isNo hi | some y => !(isNo hi) && chkE false Γ hi y)
    | _ => false
  | .rev a, v => match v with
    | .Subscript x (.Slice none none (some (.UnaryOp .USub (.Constant (.int 1) _ _) _)) _) _ => chkE false Γ a x
    | _ => false
  | .call x _ es, v => match v with
    | .Call f as [] _ => nameIs Γ.sc x f && as.all nst && chkL Γ es as
    | _ => false
  | .blt b es, v => match bltC Γ.sc b v with
    | some as => chkL Γ es as
    | none => false
  | .isin a ts, v => match v with
    | .Call f [x, y] [] _ => nameIs Γ.sc "isinstance" f && nst x && nst y && tysC Γ.sc ts y && chkE false Γ a x
    | _ => false
  | .comp e tg src c, v => match v with
    | .ListComp elt [⟨tgx, iter, ifs, 0⟩] scope _ => blkC Γ.N Γ.sc scope ((tgNames tgx).zip tg) && decide ((tgNames tgx).length = tg.length) && tgC (blkCe Γ scope) tgx tg && noSet iter && chkI Γ src iter &&
      (match ifs with | [] => isNo c | [y] => !(isNo c) && chkE true (blkCe Γ scope) c y | _ => false) && chkE false (blkCe Γ scope) e elt
    | _ => false
  | .alloc e, v => !t && e.fresh && chkE false Γ e v
  | .fld _ _, _ => false
  | .meth _ _ _ _ _, _ => false
  | .make _ _ _, _ => false
  | .bm m a es, v => match bmC m v with
    | some (o, as) => chkE false Γ a o && chkL Γ es as
    | none => false
def chkL (Γ : Ce) : EL → List Expr → Bool
  | .nil, as => as.isEmpty
  | .cons e es, as => match as with
    | x :: xs => nst x && chkE false Γ e x && chkL Γ es xs
    | [] => false
def chkI (Γ : Ce) : It → Expr → Bool
  | .seq a, v => chkE false Γ a v
  | .rg1 a, v => match call1C Γ.sc "range" v with
    | some [x] => chkE false Γ a x
    | _ => false
  | .rg2 a b, v => match call1C Γ.sc "range" v with
    | some [x, y] => chkE false Γ a x && chkE false Γ b y
    | _ => false
  | .enum _, _ => false
  | .zip _ _, _ => false
def chkS (Γ : Ce) : S → Stmt → Bool
  | .ex e, st => match st with
    | .Expr v _ => noLc v && chkE false Γ e v
    | _ => false
  | .set i e, st => match st with
    | .Assign [.Name x p] v _ => slotC Γ x i && chkE false Γ e v && (noLc v || isLc e)
    | _ => false
  | .unp is e, st => match st with
    | .Assign [.Tuple ts _ _] v _ => slotsC Γ ts is && unpC Γ.sc ts v && chkE false Γ e v
    | _ => false
  | .par i j es, st => match st with
    | .Assign [.Tuple [.Name x px, .Name y py] _ _] (.Tuple [a, b] _ _) _ => slotC Γ x i && slotC Γ y j && !(decide (i = j)) && parC Γ.sc x y px py a b && chkL Γ es [a, b]
    | _ => false
  | .ixSet o i e, st => match st with
    | .Assign [.Subscript x y _] v _ => plainIx y && noLc v && chkE false Γ o x && chkE false Γ i y && chkE false Γ e v
    | _ => false
  | .fldSet _ _ _, _ => false
  | .ret e, st => match st with
    | .Return (some v) _ => chkE false Γ e v
    | .Return none _ => match e with
      | .cst .non => true
      | _ => false
    | _ => false
  | .ite c a b, st => match st with
    | .If z x y _ => chkE true Γ c z && chkSL Γ a x && chkSL Γ b y
    | _ => false
  | .for_ tg src body _, st => match st with
    | .For tgx iter bd [] _ => tgC Γ tgx tg && noSet iter && chkI Γ src iter && chkSL Γ body bd
    | _ => false
  | .while_ c body _, st => match st with
    | .While z bd [] _ => chkE true Γ c z && chkSL Γ body bd
    | _ => false
  | .raise _ _, _ => false
  | .try_ _ _ _ _, _ => false
  | .pass, st => match st with
    | .Pass _ => true
    | .Expr (.Constant (.str _) _ _) _ => true
    | _ => false
  | .kill _, _ => false
def chkSL (Γ : Ce) : SL → List Stmt → Bool
  | .nil, sts => sts.isEmpty
  | .cons s ss, sts => match s with
    | .kill _ => chkSL Γ ss sts
    | s => match sts with
      | st :: rest => chkS Γ s st && chkSL Γ ss rest
      | [] => false
end
inductive Use where
  | fn (x : String) (f : Fn)
  | glob (x : String) (d : D)
mutual
def usesE : E → List Use
  | .glob x d => [.glob x d]
  | .bop _ a b => usesE a ++ usesE b
  | .neg a => usesE a
  | .not a => usesE a
  | .and a b => usesE a ++ usesE b
  | .or a b => usesE a ++ usesE b
  | .cmp _ a b => usesE a ++ usesE b
  | .chain _ _ a b c => usesE a ++ (usesE b ++ usesE c)
  | .isN a => usesE a
  | .notN a => usesE a
  | .isB a _ => usesE a
  | .notB a _ => usesE a
  | .ite c a b => usesE c ++ (usesE a ++ usesE b)
  | .tup es => usesL es
  | .lst es => usesL es
  | .ix a b => usesE a ++ usesE b
  | .sl a lo hi => usesE a ++ (usesE lo ++ usesE hi)
  | .rev a => usesE a
  | .call x f es => .fn x f :: usesL es
  | .blt _ es => usesL es
  | .isin a _ => usesE a
  | .comp e _ src c => usesE e ++ (usesI src ++ usesE c)
  | .alloc e => usesE e
  | .bm _ a es => usesE a ++ usesL es
  | _ => []
def usesL : EL → List Use
  | .nil => []
  | .cons e es => usesE e ++ usesL es
def usesI : It → List Use
  | .seq a => usesE a
  | .rg1 a => usesE a
  | .rg2 a b => usesE a ++ usesE b
  | .enum a => usesE a
  | .zip a b => usesE a ++ usesE b
def usesS : S → List Use
  | .ex e => usesE e
  | .set _ e => usesE e
  | .unp _ e => usesE e
  | .par _ _ es => usesL es
  | .ixSet o i e => usesE o ++ (usesE i ++ usesE e)
  | .ret e => usesE e
  | .ite c a b => usesE c ++ (usesSL a ++ usesSL b)
  | .for_ _ src body _ => usesI src ++ usesSL body
  | .while_ c body _ => usesE c ++ usesSL body
  | _ => []
def usesSL : SL → List Use
  | .nil => []
  | .cons s ss => usesS s ++ usesSL ss
end
end Mp

set_option maxRecDepth 100000
/-! Mp4c: the checks are right. -/
namespace Mp
open PySem PySem.Spec PyProof.Rows L2

def bltNames : List String := ["len", "abs", "min", "max", "sum", "all", "any", "tuple", "list", "sorted", "set", "int", "str", "bool", "repr", "isinstance", "range", "enumerate", "zip", "reversed"]
structure Fit (X : Cx) (Γ : Ce) : Prop where
  N : X.N = Γ.N
  sc : X.env.scope = Γ.sc
  fn : X.fn = Γ.fn
  nd : Γ.N.Nodup
  calm : X.calm = true
  kind : X.env.scope.kind = .function
structure Cxt (X : Cx) (k : Nat) : Prop where
  room : Room k X.A
  gu : X.A.guards = some []
  free : ∀ x ∈ bltNames, X.mg (Str.ofString x) = none
def UseOk (P : Program) (w : World) (K : PySem.W.Frag) (mg : Str → Option Value) (base : Heap) (k : Nat) : Use → Prop
  | .fn x f => CallOk P w K mg base k x f
  | .glob x d => GlobOk K mg x d
abbrev Uses (X : Cx) (k : Nat) (us : List Use) : Prop := ∀ u ∈ us, UseOk X.prog X.w X.K X.mg X.base k u

section
variable {X : Cx} {Γ : Ce} {W : WX} {l : List Nat} {k : Nat}
theorem Uses.left {us vs : List Use} (h : Uses X k (us ++ vs)) : Uses X k us := fun u hu => h u (List.mem_append_left _ hu)
theorem Uses.right {us vs : List Use} (h : Uses X k (us ++ vs)) : Uses X k vs := fun u hu => h u (List.mem_append_right _ hu)
theorem star1 {a : Expr} {as : List Expr} {env : Env} (h : nst a = true) : starEach (a :: as) env = (false, eval a env) :: starEach as env := by
  cases a <;> first | rfl | cases h
theorem stars {pos : Pos} {env : Env} : ∀ {as : List Expr}, as.all nst = true → (backTo pos (starEach as env)).any (·.1) = false
  | [], _ => rfl
  | a :: as, h => by
    have h' : nst a = true ∧ as.all nst = true := by simpa using h
    rw [star1 h'.1]
    show (false || (backTo pos (starEach as env)).any (·.1)) = false
    rw [stars h'.2]; rfl
theorem glC_ok (F : Fit X Γ) {x : Str} (h : glC Γ.sc x = true) : Gl X x := by
  unfold glC at h
  split at h
  · rename_i e; show X.env.scope.names.lookup x = _; rw [F.sc]; exact e
  · cases h
theorem visC_ok (F : Fit X Γ) {x : Str} (h : visC Γ.sc x = true) : Vis X.env.scope x := by
  unfold visC at h
  rw [F.sc]
  split at h
  · exact .inl (by assumption)
  · exact .inr (.inl (by assumption))
  · exact .inr (.inr (by assumption))
  · cases h
theorem locC_ok {sc : Scope} {x : Str} (h : locC sc x = true) : sc.names.lookup x = some .local := by
  unfold locC at h
  split at h
  · assumption
  · cases h
theorem celC_ok {sc : Scope} {x : Str} (h : celC sc x = true) : sc.names.lookup x = some .cell := by
  unfold celC at h
  split at h
  · assumption
  · cases h
theorem slotC_ok (F : Fit X Γ) {x : Str} {i : Nat} (h : slotC Γ x i = true) : X.N[i]? = some x ∧ Loc X.env.scope x ∧ (X.fn x = true ∨ X.env.scope.names.lookup x = some .local) := by
  unfold slotC at h
  simp only [Bool.and_eq_true, Bool.or_eq_true, decide_eq_true_eq] at h
  refine ⟨by rw [F.N]; exact h.1, ?_, ?_⟩
  · rw [F.sc]
    rcases h.2 with q | q
    · exact .inl (locC_ok q)
    · exact .inr (celC_ok q.1)
  · rw [F.sc, F.fn]
    rcases h.2 with q | q
    · exact .inr (locC_ok q)
    · exact .inl q.2
theorem nameIs_ok (F : Fit X Γ) {x : String} {f : Expr} (h : nameIs Γ.sc x f = true) : ∃ p, f = .Name (Str.ofString x) p ∧ Gl X (Str.ofString x) ∧ (Str.ofString x == ("__debug__" : Str)) = false := by
  unfold nameIs at h
  split at h
  · rename_i y p
    simp only [Bool.and_eq_true, decide_eq_true_eq] at h
    obtain ⟨⟨h1, h2⟩, h3⟩ := h
    subst h1
    exact ⟨p, rfl, glC_ok F h2, by simpa using h3⟩
  · cases h
theorem call1C_ok (F : Fit X Γ) {x : String} {v : Expr} {as : List Expr} (h : call1C Γ.sc x v = some as) : ∃ p pos a as', v = .Call (.Name (Str.ofString x) p) (a :: as') [] pos ∧ as = a :: as' ∧ Gl X (Str.ofString x) ∧ (Str.ofString x == ("__debug__" : Str)) = false ∧ nst a = true ∧ as'.all nst = true := by
  unfold call1C at h
  split at h
  · rename_i f a as' pos
    split at h
    · rename_i hc
      simp only [Bool.and_eq_true] at hc
      obtain ⟨⟨h1, h2⟩, h3⟩ := hc
      cases h
      obtain ⟨p, rfl, g, d⟩ := nameIs_ok F h1
      exact ⟨p, pos, a, as', rfl, rfl, g, d, h2, h3⟩
    · cases h
  · cases h
theorem bopOf_ok {op : Operator} {o : Bop} (h : bopOf op = some o) {a b : Expr} {ea eb : E} {pos : Pos} (ha : PE X a (tM X W l ea)) (hb : PE X b (tM X W l eb)) : PE X (.BinOp a op b pos) (tM X W l (.bop o ea eb)) := by
  cases op <;> first
    | (cases h; done)
    | (cases h; first | exact m_add ha hb | exact m_sub ha hb | exact m_mul ha hb | exact m_mod ha hb | exact m_fdiv ha hb | exact m_pow ha hb)
theorem copOf_ok {op : CmpOp} {o : Cop} (h : copOf op = some o) : op = opC o := by
  cases op <;> first | (cases h; done) | (cases h; rfl)
theorem plainIx_ok {b : Expr} (h : plainIx b = true) : PlainIx b := by
  intro o i
  cases b <;> first | rfl | cases h
theorem plainT_ok {v : Expr} {env : Env} (h : plainT v = true) : ∀ whole, isTrue v env whole = (do let u ← whole; standAt v.pos; holding [u] (truthy u)) := by
  intro whole
  cases v <;> first
    | rfl
    | (cases h; done)
    | (rename_i op a p; cases op <;> first | rfl | (cases h; done))
theorem noSet_ok {v : Expr} {env : Env} (h : noSet v = true) : ∀ x, foldedSetIterable v env x = pure x := by
  intro x
  cases v <;> first | rfl | cases h
theorem noLc_ok {v : Expr} {env : Env} (h : noLc v = true) (t : Option Expr) (n : Nat) : swapsWith v t n env = pure false := by
  cases v <;> first | rfl | cases h
theorem base_ok {v : Expr} {env : Env} {x : Str} (h : noCall v = true) : attributeBase v x env (eval v env) = eval v env := by
  cases v <;> first | rfl | cases h
theorem free_of (C : Cxt X k) {x : String} (h : x ∈ bltNames) : X.mg (Str.ofString x) = none := C.free x h
theorem hu_of' (C : Cxt X k) : X.A.units + 65 < cLine := by have := C.room.un; omega
/-! ### built-in functions -/
theorem blt_call {x : String} {v : Expr} {as : List Expr} {id : String} {b : Blt} {es : EL} {r : List V → Hp → VK → Prop} (F : Fit X Γ) (C : Cxt X k) (h : call1C Γ.sc x v = some as) (ha : PA X as (tMs X W l es)) (hc : CallR X (.builtin id) r) (hx : x ∈ bltNames)
    (hv : bootBuiltins (Str.ofString x) = some (.builtin id)) (hn : Str.ofString x ≠ "__name__") (hk : BltOk X W l b r) : PE X v (tM X W l (.blt b es)) := by
  obtain ⟨p, pos, a, as', rfl, rfl, g, d, n1, n2⟩ := call1C_ok F h
  exact m_blt (pe_callB hc g (free_of C hx) hv ha hn d (star1 n1) (stars n2)) hk
theorem blt_callT {x : String} {v : Expr} {as : List Expr} {id : String} {b : Blt} {es : EL} {r : List V → Hp → VK → Prop} (F : Fit X Γ) (C : Cxt X k) (h : call1C Γ.sc x v = some as) (ha : PA X as (tMs X W l es)) (hc : CallR X (.type id) r) (hx : x ∈ bltNames)
    (hv : bootBuiltins (Str.ofString x) = some (.type id)) (hn : Str.ofString x ≠ "__name__") (hk : BltOk X W l b r) : PE X v (tM X W l (.blt b es)) := by
  obtain ⟨p, pos, a, as', rfl, rfl, g, d, n1, n2⟩ := call1C_ok F h
  exact m_blt (pe_callTy hc g (free_of C hx) hv ha hn d (star1 n1) (stars n2)) hk
theorem call2C_ok (F : Fit X Γ) {x y : String} {v : Expr} {as : List Expr} (h : call2C Γ.sc x y v = some as) :
    ∃ p pos q p2 a as', v = .Call (.Name (Str.ofString x) p) [.Call (.Name (Str.ofString y) p2) (a :: as') [] q] [] pos ∧ as = a :: as' ∧ Gl X (Str.ofString x) ∧ Gl X (Str.ofString y) ∧ nst a = true ∧ as'.all nst = true := by
  unfold call2C at h
  split at h
  · rename_i w e
    obtain ⟨p, pos, a, as', rfl, e2, g, d, n1, n2⟩ := call1C_ok F e
    obtain ⟨p2, q, a2, as2, rfl, rfl, g2, d2, n3, n4⟩ := call1C_ok F h
    cases e2
    exact ⟨p, pos, q, p2, a2, as2, rfl, rfl, g, g2, n3, n4⟩
  · cases h
theorem pa1 {a : Expr} {es : EL} {ea : E} (e : es = .cons ea .nil) (h : PE X a (tM X W l ea)) : True := trivial
/-- the parts of an argument list -/
inductive PAs (X : Cx) (W : WX) (l : List Nat) : List Expr → EL → Prop
  | nil : PAs X W l [] .nil
  | cons {a : Expr} {as : List Expr} {e : E} {es : EL} : nst a = true → PE X a (tM X W l e) → PAs X W l as es → PAs X W l (a :: as) (.cons e es)
theorem PAs.pa {as : List Expr} {es : EL} (h : PAs X W l as es) : PA X as (tMs X W l es) := by
  induction h with
  | nil => exact m_nil
  | cons n h _ ih => exact m_cons h ih (star1 n)
theorem opt_some {α : Type} {c : Prop} [Decidable c] {x y : α} (h : (if c then some x else none) = some y) : c ∧ x = y := by
  split at h
  · cases h; exact ⟨by assumption, rfl⟩
  · cases h
theorem blt_ok {b : Blt} {v : Expr} {as : List Expr} {es : EL} (F : Fit X Γ) (C : Cxt X k) (h : bltC Γ.sc b v = some as) (ha : PAs X W l as es) : PE X v (tM X W l (.blt b es)) := by
  have hr := fun (x : String) (hx : x ∈ bltNames) => free_of C hx
  cases b with
  | len => exact blt_call F C h ha.pa (CallR.or call_len_seq call_len_str) (by decide) (by decide +kernel) (by decide +kernel) ok_len
  | abs => exact blt_call F C h ha.pa call_abs (by decide) (by decide +kernel) (by decide +kernel) ok_abs
  | min2 => exact blt_call F C h ha.pa (call_min2 F.calm) (by decide) (by decide +kernel) (by decide +kernel) ok_min2
  | max2 => exact blt_call F C h ha.pa (call_max2 F.calm) (by decide) (by decide +kernel) (by decide +kernel) ok_max2
  | minL => exact blt_call F C h ha.pa (cr_min F.calm) (by decide) (by decide +kernel) (by decide +kernel) ok_minL
  | maxL => exact blt_call F C h ha.pa (cr_max F.calm) (by decide) (by decide +kernel) (by decide +kernel) ok_maxL
  | sum => exact blt_call F C h ha.pa (cr_sum F.calm) (by decide) (by decide +kernel) (by decide +kernel) ok_sum
  | all => exact blt_call F C h ha.pa (cr_all F.calm) (by decide) (by decide +kernel) (by decide +kernel) ok_all
  | any => exact blt_call F C h ha.pa (cr_any F.calm) (by decide) (by decide +kernel) (by decide +kernel) ok_any
  | tuple => exact blt_callT F C h ha.pa call_tuple_of (by decide) (by decide +kernel) (by decide +kernel) ok_tuple
  | list => exact blt_callT F C h ha.pa call_list_of (by decide) (by decide +kernel) (by decide +kernel) ok_list
  | listR1 =>
    obtain ⟨as0, h0, h1⟩ := Option.bind_eq_some_iff.mp h
    obtain ⟨hl, rfl⟩ := opt_some h1
    obtain ⟨p, pos, q, p2, a, as', rfl, rfl, g, g2, n1, n2⟩ := call2C_ok F h0
    obtain rfl : as' = [] := by simpa using hl
    cases ha with
    | cons n pe t => cases t; exact m_listR1 F.calm g2 (hr "range" (by decide)) g (hr "list" (by decide)) pe (star1 n)
  | listR2 =>
    obtain ⟨as0, h0, h1⟩ := Option.bind_eq_some_iff.mp h
    obtain ⟨hl, rfl⟩ := opt_some h1
    obtain ⟨p, pos, q, p2, a, as', rfl, rfl, g, g2, n1, n2⟩ := call2C_ok F h0
    cases ha with
    | cons n pe t =>
      cases t with
      | nil => simp at hl
      | cons n' pe' t' =>
        cases t' with
        | nil => exact m_listR2 F.calm g2 (hr "range" (by decide)) g (hr "list" (by decide)) pe pe' (star1 n) (star1 n') (stars n2)
        | cons _ _ _ => simp at hl
  | tupR1 =>
    obtain ⟨as0, h0, h1⟩ := Option.bind_eq_some_iff.mp h
    obtain ⟨hl, rfl⟩ := opt_some h1
    obtain ⟨p, pos, q, p2, a, as', rfl, rfl, g, g2, n1, n2⟩ := call2C_ok F h0
    obtain rfl : as' = [] := by simpa using hl
    cases ha with
    | cons n pe t => cases t; exact m_tupR1 F.calm g2 (hr "range" (by decide)) g (hr "tuple" (by decide)) pe (star1 n)
  | tupR2 =>
    obtain ⟨as0, h0, h1⟩ := Option.bind_eq_some_iff.mp h
    obtain ⟨hl, rfl⟩ := opt_some h1
    obtain ⟨p, pos, q, p2, a, as', rfl, rfl, g, g2, n1, n2⟩ := call2C_ok F h0
    cases ha with
    | cons n pe t =>
      cases t with
      | nil => simp at hl
      | cons n' pe' t' =>
        cases t' with
        | nil => exact m_tupR2 F.calm g2 (hr "range" (by decide)) g (hr "tuple" (by decide)) pe pe' (star1 n) (star1 n') (stars n2)
        | cons _ _ _ => simp at hl
  | sorted => exact blt_call F C h ha.pa cr_sortedI (by decide) (by decide +kernel) (by decide +kernel) ok_sorted
  | sortedSet => cases h
  | lenSet => cases h
  | int => exact blt_callT F C h ha.pa call_int1 (by decide) (by decide +kernel) (by decide +kernel) ok_int
  | str => exact blt_callT F C h ha.pa call_str_int (by decide) (by decide +kernel) (by decide +kernel) ok_str
  | repr => exact blt_call F C h ha.pa (call_reprD C.gu (hu_of' C)) (by decide) (by decide +kernel) (by decide +kernel) ok_repr
/-! ### isinstance -/
theorem ty_pe (C : Cxt X k) {t : Ty} (ht : bTy t = true) {p : Pos} (g : Gl X (Str.ofString (tyName t))) : PE X (.Name (Str.ofString (tyName t)) p) (tC (.ty (tyName t))) := by
  have key : ∀ t ∈ [Ty.int, .bool, .tuple, .list, .str], tyName t ∈ bltNames ∧ bootBuiltins (Str.ofString (tyName t)) = some (.type (tyName t)) ∧ Str.ofString (tyName t) ≠ "__name__" ∧ (Str.ofString (tyName t) == ("__debug__" : Str)) = false := by decide +kernel
  obtain ⟨h1, h2, h3, h4⟩ := key t (bTy_mem ht)
  exact pe_bltn g (free_of C h1) h2 rfl h3 h4
theorem tysL_ok (F : Fit X Γ) : ∀ {ts : List Ty} {es : List Expr}, tysL Γ.sc ts es = true → ∃ ps, es = clsL ts ps ∧ ts.length = ps.length ∧ (∀ t ∈ ts, bTy t = true) ∧ ∀ t ∈ ts, Gl X (Str.ofString (tyName t))
  | [], [], _ => ⟨[], rfl, rfl, by simp, by simp⟩
  | t :: ts, e :: es, h => by
    have h' : (nameIs Γ.sc (tyName t) e = true ∧ bTy t = true) ∧ tysL Γ.sc ts es = true := by simpa [tysL] using h
    obtain ⟨p, rfl, g, d⟩ := nameIs_ok F h'.1.1
    obtain ⟨ps, rfl, h1, h2, h3⟩ := tysL_ok F h'.2
    refine ⟨p :: ps, rfl, by simp [h1], fun u hu => ?_, fun u hu => ?_⟩
    · rcases List.mem_cons.mp hu with q | q
      · rw [q]; exact h'.1.2
      · exact h2 u q
    · rcases List.mem_cons.mp hu with q | q
      · rw [q]; exact g
      · exact h3 u q
  | [], _ :: _, h => nomatch h
  | _ :: _, [], h => nomatch h
theorem isin_ok (F : Fit X Γ) (C : Cxt X k) {ts : List Ty} {a : Expr} {ea : E} {y : Expr} {p pos : Pos} (h : tysC Γ.sc ts y = true) (n1 : nst a = true) (g : Gl X "isinstance") (ha : PE X a (tM X W l ea)) :
    PE X (.Call (.Name "isinstance" p) [a, y] [] pos) (tM X W l (.isin ea ts)) := by
  have hm : X.mg "isinstance" = none := free_of C (x := "isinstance") (by decide)
  unfold tysC at h
  split at h
  · rename_i es kk p2
    simp only [Bool.and_eq_true, decide_eq_true_eq] at h
    obtain ⟨ps, rfl, h1, h2, h3⟩ := tysL_ok F h.2
    exact m_isinT h1 h.1.1 h2 g hm (fun t ht p => ty_pe C (h2 t ht) (h3 t ht)) ha (by rw [sizeLine_eq]; have := h.1.2; omega) (star1 n1)
  · split at h
    · rename_i t
      simp only [Bool.and_eq_true] at h
      obtain ⟨p2, rfl, g2, d⟩ := nameIs_ok F h.1
      exact m_isin1 h.2 g hm (ty_pe C h.2 g2) ha (star1 n1)
    · cases h
/-! ### methods -/
theorem mts {id : String} {r : V → List V → Hp → VK → Prop} (h : MtM X id r) : MtR X id r := h
end
end Mp

set_option maxRecDepth 100000
/-! Mp4d: the checks are right: methods, targets, stores; the whole. -/
namespace Mp
open PySem PySem.Spec PyProof.Rows L2

section
variable {X : Cx} {Γ : Ce} {W : WX} {l : List Nat} {k : Nat}
theorem few_ok {as : List Expr} {env : Env} {pos : Pos} (h : as.all nst = true) (hl : as.length ≤ 5) : ((backTo pos (starEach as env)).all (fun x => !x.1) && (backToKw pos (keywordEach [] env)).all (fun x => x.1.isSome)
      && decide (as.length + ([] : List Keyword).length + (if ([] : List Keyword).isEmpty then 0 else 1) < 30)) = true := by
  have h1 : (backTo pos (starEach as env)).all (fun x => !x.1) = true := by
    have := stars (pos := pos) (env := env) h
    rw [List.all_eq_true]
    intro x hx
    rw [List.any_eq_false] at this
    simpa using this x hx
  rw [h1]
  simp [keywordEach, backToKw]
  omega
theorem bmC_ok {m : Bm} {v o : Expr} {as : List Expr} (h : bmC m v = some (o, as)) : ∃ ap cp, v = .Call (.Attribute o (Str.ofString m.name) ap) as [] cp ∧ noCall o = true ∧ (ap.endLine == cp.line) = true ∧ as.all nst = true ∧ as.length = m.ar ∧ bmIn m = true := by
  unfold bmC at h
  split at h
  · rename_i o' x ap as' cp
    split at h
    · rename_i hc
      cases h
      simp only [Bool.and_eq_true, decide_eq_true_eq] at hc
      obtain ⟨⟨⟨⟨⟨h0, rfl⟩, h2⟩, h3⟩, h4⟩, h5⟩ := hc
      exact ⟨ap, cp, rfl, h2, h3, h4, h5, h0⟩
    · cases h
  · cases h
theorem bm_go {m : Bm} {o : Expr} {as : List Expr} {es : EL} {ea : E} {ap cp : Pos} {name : Str} {id : String} {r : V → List V → Hp → VK → Prop} (hn : noCall o = true) (hline : (ap.endLine == cp.line) = true) (ho : PE X o (tM X W l ea)) (ha : PAs X W l as es) (hz : as.length ≤ 5) (hT : bmTy m = "list")
    (slot : Slot "list" name id) (hty : typeOf (.builtin id) = pure (.type "method_descriptor")) (hm : MtR X id r) (hk : BmOk X W l m r) : PE X (.Call (.Attribute o name ap) as [] cp) (tM X W l (.bm m ea es)) := by
  cases ha with
  | nil => exact m_bm0 (a := o) (by rw [hT]; exact pe_bm0 F.plainAttrs_list slot hty hm ho (base_ok hn) hline) hk
  | @cons a as e es n h t =>
    have all : (a :: as).all nst = true := by
      have key : ∀ {as es}, PAs X W l as es → as.all nst = true := fun {as es} t => by
        induction t with
        | nil => rfl
        | cons n _ _ ih => simp [n, ih]
      exact key (.cons n h t)
    exact m_bm (a := o) (as := []) (by rw [hT]; exact pe_bm F.plainAttrs_list slot hty hm ho (PAs.cons n h t).pa (base_ok hn) (few_ok all hz) hline (star1 n) (stars (by simpa using (show nst a = true ∧ as.all nst = true by simpa using all).2))) hk
theorem bm_ok {m : Bm} {v o : Expr} {as : List Expr} {es : EL} {ea : E} (h : bmC m v = some (o, as)) (ho : PE X o (tM X W l ea)) (ha : PAs X W l as es) : PE X v (tM X W l (.bm m ea es)) := by
  obtain ⟨ap, cp, rfl, h1, h2, h3, h4, h5⟩ := bmC_ok h
  have hz : as.length ≤ 5 := by rw [h4]; cases m <;> decide
  cases m with
  | append => exact bm_go h1 h2 ho ha hz rfl F.slot_list_append F.type_list_append mt_append ok_append
  | extend => exact bm_go h1 h2 ho ha hz rfl F.slot_list_extend F.type_list_extend mt_extend ok_extend
  | insert => exact bm_go h1 h2 ho ha hz rfl F.slot_list_insert F.type_list_insert mt_insert ok_insert
  | pop => exact bm_go h1 h2 ho ha hz rfl F.slot_list_pop F.type_list_pop mt_pop ok_pop
  | popAt => exact bm_go h1 h2 ho ha hz rfl F.slot_list_pop F.type_list_pop mt_popAt ok_popAt
  | reverse => exact bm_go h1 h2 ho ha hz rfl F.slot_list_reverse F.type_list_reverse mt_reverse ok_reverse
  | remove => cases h5
  | index => cases h5
  | join => cases h5
/-! ### targets -/
theorem nmOf_ok {e : Expr} {x : Str} (h : nmOf e = some x) : ∃ p, e = .Name x p := by
  unfold nmOf at h
  split at h
  · cases h; exact ⟨_, rfl⟩
  · cases h
theorem slotsC_ok (F : Fit X Γ) : ∀ {es : List Expr} {is : List Nat}, slotsC Γ es is = true → PGs X es (gNs is) ∧ (assignEach es X.env).length = is.length ∧ (assignEach es X.env).findIdx? (·.1) = none
  | [], [], _ => ⟨pgs_nil, rfl, rfl⟩
  | e :: es, i :: is, h => by
    unfold slotsC at h
    rw [Bool.and_eq_true] at h
    obtain ⟨h0, h'⟩ := h
    split at h0
    · rename_i x ex
      obtain ⟨p, rfl⟩ := nmOf_ok ex
      obtain ⟨h1, h2, h3⟩ := slotsC_ok F h'
      obtain ⟨q1, q2, q3⟩ := slotC_ok F h0
      refine ⟨pgs_cons (pg_name (by rw [F.N]; exact F.nd) q1 q2 q3) h1 rfl, by show (assignEach es X.env).length + 1 = _; rw [h2]; rfl, ?_⟩
      show List.findIdx? (·.1) ((false, assign (.Name x p) X.env) :: assignEach es X.env) = none
      rw [List.findIdx?_cons, h3]
      rfl
    · cases h0
  | [], _ :: _, h => nomatch h
  | _ :: _, [], h => nomatch h
theorem tgC_ok (F : Fit X Γ) {v : Expr} {tg : List Nat} (h : tgC Γ v tg = true) : PG X v (tgM X.K tg) := by
  unfold tgC at h
  split at h
  · split at h
    · obtain ⟨q1, q2, q3⟩ := slotC_ok F h
      exact pg_name (by rw [F.N]; exact F.nd) q1 q2 q3
    · cases h
  · rename_i es k pos
    simp only [Bool.and_eq_true, decide_eq_true_eq] at h
    obtain ⟨h1, h2, h3⟩ := slotsC_ok F h.2
    have q : PG X _ (gTup X.K tg.length (gNs tg)) := pg_tup (k := k) (pos := pos) F.calm h1 h2 h3
    cases tg with
    | nil => simp at h
    | cons i is =>
      cases is with
      | nil => simp at h
      | cons j js => exact q
  · cases h
/-! ### stores -/
theorem blk_fun {env : Env} (hk : env.scope.kind = .function) : env.blockKind = .function := by unfold Env.blockKind; rw [hk]; rfl
theorem sw_none {env : Env} {ts : List Expr} {v : Expr} {k : Nat} {p : Pos} (h : noTup v = true) : swappedStores [.Tuple ts k p] v env = pure none := by
  cases v <;> first | rfl | cases h
theorem par_sw {env : Env} {x y : Str} {px py pt pt2 : Pos} {kt k2 : Nat} {a b : Expr} (hk : env.scope.kind = .function) (h : parC env.scope x y px py a b = true) :
    swappedStores [.Tuple [.Name x px, .Name y py] kt pt] (.Tuple [a, b] k2 pt2) env = pure (some [x, y]) := by
  unfold parC at h
  simp only [Bool.and_eq_true, Bool.not_eq_true'] at h
  obtain ⟨⟨⟨⟨⟨⟨⟨h1, h2⟩, h3⟩, h4⟩, h5⟩, h6⟩, h7⟩, h8⟩ := h
  have hx : env.kindOf x = some .local := locC_ok h1
  have hy : env.kindOf y = some .local := locC_ok h2
  have hb := blk_fun hk
  have e3 : px.line = py.line := by simpa using h3
  have nab : ∀ f : Expr → Bool, (∀ e, f e = !nst e) → [a, b].any f = false := fun f hf => by simp [hf, h7, h8]
  have nxy : (x == y) = false := h4
  have nyx : (y == x) = false := by
    rw [beq_eq_false_iff_ne] at nxy ⊢
    exact Ne.symm nxy
  unfold swappedStores
  simp only [hb]
  rw [nab _ (by intro e; cases e <;> rfl)]
  simp [hx, hy, e3, h5, h6, List.eraseDups_cons, nxy, nyx, Expr.pos]
theorem filterMap_lt {α β : Type} {f : α → Option β} : ∀ {ts : List α}, (∃ t ∈ ts, f t = none) → (ts.filterMap f).length < ts.length
  | [], ⟨_, h, _⟩ => nomatch h
  | t :: ts, ⟨u, hu, e⟩ => by
    rw [List.filterMap_cons]
    cases ft : f t with
    | none =>
      have := List.length_filterMap_le f ts
      simp; omega
    | some b =>
      have : ∃ v ∈ ts, f v = none := by
        rcases List.mem_cons.mp hu with q | q
        · rw [q, ft] at e; cases e
        · exact ⟨u, q, e⟩
      have := filterMap_lt this
      simp; omega
theorem unp_sw {env : Env} {ts : List Expr} {v : Expr} {k : Nat} {p : Pos} (h : unpC env.scope ts v = true) : swappedStores [.Tuple ts k p] v env = pure none := by
  unfold unpC at h
  split at h
  · rename_i vs k2 p2
    simp only [Bool.or_eq_true, Bool.not_eq_true'] at h
    unfold swappedStores
    simp only
    split
    · rfl
    · rename_i c1
      split
      · rfl
      · split
        · rfl
        · rename_i c3
          split
          · rfl
          · rename_i c4
            exfalso
            rcases h with (h | h) | h
            · simp [h] at c1
            · exact c4 h
            · obtain ⟨t, ht, q⟩ := List.any_eq_true.mp h
              simp only [Bool.or_eq_true, bne_iff_ne, not_or, ne_eq, Decidable.not_not] at c3
              refine absurd c3.1 (Nat.ne_of_lt (filterMap_lt ⟨t, ht, ?_⟩))
              cases t with
              | Name x px =>
                have q : locC env.scope x = false := by simpa [nmOf] using q
                have q2 : (env.kindOf x == some NameKind.local) = false := by
                  unfold locC at q
                  rw [beq_eq_false_iff_ne]
                  intro e
                  have e : env.scope.names.lookup x = some .local := e
                  rw [e] at q
                  cases q
                simp [q2]
              | _ => rfl
  · rfl
  · exact sw_none (by cases v <;> first | rfl | (cases h; done) | simp_all)
end
end Mp

set_option maxRecDepth 100000
/-! Mp4e: what is checked holds. -/
namespace Mp
open PySem PySem.Spec PyProof.Rows L2

section
variable {X : Cx} {Γ : Ce} {W : WX} {l : List Nat} {k : Nat}
/-- both readings -/
def Both (X : Cx) (W : WX) (l : List Nat) (Γ : Ce) (e : E) (v : Expr) : Prop :=
  (chkE false Γ e v = true → PE X v (tM X W l e)) ∧ (chkE true Γ e v = true → PT X v (tMt X W l e) ∧ ∀ o es p, v = .BoolOp o es p → PW X v (tMt X W l e))
theorem both {e : E} {v : Expr} (key : ∀ t, chkE t Γ e v = true → PE X v (tM X W l e) ∧ plainT v = true) : Both X W l Γ e v :=
  ⟨fun h => (key _ h).1, fun h => ⟨pt_of (key _ h).1 (plainT_ok (key _ h).2), fun o es p e => by have := (key _ h).2; rw [e] at this; cases this⟩⟩
theorem bothT {e : E} {v : Expr} (h1 : chkE false Γ e v = true → PE X v (tM X W l e)) (h2 : chkE true Γ e v = true → PT X v (tMt X W l e) ∧ ∀ o es p, v ≠ .BoolOp o es p) : Both X W l Γ e v :=
  ⟨h1, fun h => ⟨(h2 h).1, fun o es p e => absurd e ((h2 h).2 o es p)⟩⟩
theorem and2 {a b : Bool} (h : (a && b) = true) : a = true ∧ b = true := by simpa using h
theorem blk_fit {s : Shared} {H : Hp} {scope : Scope} {cl : List (Str × Addr)} {C : Addr} {fp : List Addr} (F : Fit X Γ) (hk : scope.kind = .function) : Fit (X.blk s H scope (compEnvC scope cl C X.env) fp) (blkCe Γ scope) :=
  ⟨F.N, by show relS scope X.env.scope = _; rw [F.sc]; rfl, rfl, F.nd, F.calm, by show (relS scope X.env.scope).kind = _; exact hk⟩
theorem blk_cxt {s : Shared} {H : Hp} {scope : Scope} {cenv : Env} {fp : List Addr} (C : Cxt X k) : Cxt (X.blk s H scope cenv fp) k := ⟨C.room, C.gu, C.free⟩
theorem takesF : Takes X WF := fun u s' ⟨_, _, _, _, _, _, _, _, _, _, _, _, _, _, _, _, w⟩ => w.elim
structure CompOk (X : Cx) (W : WX) (l : List Nat) (Γ : Ce) (e : E) (tg : List Nat) (src : Mp.It) (c : E) (v : Expr) : Prop where
  ex : ∃ elt tgx iter ifs scope pos own, v = .ListComp elt [⟨tgx, iter, ifs, 0⟩] scope pos ∧ PI X tgx iter (iM X W l src) ∧ BlkOk X.N X.env.scope scope own ∧ own.map (·.2) = tg ∧
    (∀ (s : Shared) (H : Hp) (C : Addr) (cl : List (Str × Addr)) (fp : List Addr), PG (X.blk s H scope (compEnvC scope cl C X.env) fp) tgx (tgM X.K tg)) ∧
    (∀ (s : Shared) (H : Hp) (C : Addr) (cl : List (Str × Addr)) (fp : List Addr), PTs (X.blk s H scope (compEnvC scope cl C X.env) fp) ifs (tcM X l c)) ∧
    (∀ (s : Shared) (H : Hp) (C : Addr) (cl : List (Str × Addr)) (fp : List Addr), PE (X.blk s H scope (compEnvC scope cl C X.env) fp) elt (tM X WF l e)) ∧ (∀ x, foldedSetIterable iter X.env x = pure x)
theorem comp_ok {e c : E} {tg : List Nat} {src : Mp.It} {v : Expr} {t : Bool} (F : Fit X Γ) (C : Cxt X k) (U : Uses X k (usesE (.comp e tg src c))) (h : chkE t Γ (.comp e tg src c) v = true)
    (ihE : ∀ {X' : Cx} {Γ' : Ce} {v : Expr}, Fit X' Γ' → Cxt X' k → Takes X' WF → Uses X' k (usesE e) → Both X' WF l Γ' e v) (ihC : ∀ {X' : Cx} {Γ' : Ce} {v : Expr}, Fit X' Γ' → Cxt X' k → Takes X' WF → Uses X' k (usesE c) → Both X' WF l Γ' c v)
    (ihI : ∀ {tgx v : Expr}, chkI Γ src v = true → PI X tgx v (iM X W l src)) : CompOk X W l Γ e tg src c v := by
  unfold chkE at h
  split at h
  · rename_i elt tgx iter ifs scope pos
    obtain ⟨h, he⟩ := and2 h
    obtain ⟨h, hc⟩ := and2 h
    obtain ⟨h, hi⟩ := and2 h
    obtain ⟨h, hn⟩ := and2 h
    obtain ⟨h, ht⟩ := and2 h
    obtain ⟨hb, hl⟩ := and2 h
    have B : BlkOk X.N X.env.scope scope ((tgNames tgx).zip tg) := by rw [F.N, F.sc]; exact blkOk_by hb
    unfold usesE at U
    refine ⟨elt, tgx, iter, ifs, scope, pos, _, rfl, ihI hi, B, ?_, fun s H C' cl fp => ?_, fun s H C' cl fp => ?_, fun s H C' cl fp => ?_, noSet_ok hn⟩
    · rw [List.map_snd_zip]
      have := of_decide_eq_true hl
      omega
    · exact tgC_ok (blk_fit F B.kind) ht
    · unfold tcM
      split at hc
      · rw [if_pos hc]; exact pts_nil
      · obtain ⟨hc1, hc2⟩ := and2 hc
        rw [if_neg (by simpa using hc1)]
        exact pts_one ((ihC (blk_fit F B.kind) (blk_cxt C) takesF U.right.right).2 hc2).1
      · cases hc
    · exact (ihE (blk_fit F B.kind) (blk_cxt C) takesF U.left).1 he
  · cases h
theorem CompOk.pe {e c : E} {tg : List Nat} {src : Mp.It} {v : Expr} (F : Fit X Γ) (h : CompOk X W l Γ e tg src c v) : PE X v (tM X W l (.comp e tg src c)) := by
  obtain ⟨elt, tgx, iter, ifs, scope, pos, own, rfl, hi, B, ho, hg, ht, he, hs⟩ := h.ex
  exact m_comp F.calm (by rw [F.N]; exact F.nd) hi B ho hg ht he hs
theorem tM.alloc {ea : E} (hf : ea.fresh = true) : ∀ τ H Q, tM X W l (.alloc ea) τ H Q → tM X W l ea τ H Q := by
  intro τ H Q ⟨φ, χ, σ, h, rs, hr, o⟩
  unfold evE at o
  refine ⟨φ, χ, σ, h, rs, hr, ?_⟩
  cases e : evE l ea σ h with
  | bad => rw [e] at o; exact o
  | ex x fs h' => rw [e] at o; exact o
  | ok d1 h1 =>
    rw [e] at o
    intro φ1 χ1 H1 x1 hr1 v rv
    have o : Out X W l τ φ χ H (allocV h1 d1) _ := o
    unfold allocV at o
    split at o
    · cases rv with
      | plain rv hn => exact absurd rfl (hn hf _)
      | @new p ds vs _ c1 c2 c3 c4 c5 =>
        have x2 : Ext φ χ H (φ1 ++ [p]) χ1 H1 := by
          refine ⟨⟨?_, x1.sub, x1.new, x1.keep, x1.tups, x1.frl⟩, x1.kp, fun a ha hn => ?_⟩
          · obtain ⟨r, er⟩ := x1.pre
            exact ⟨r ++ [p], by rw [er, List.append_assoc]⟩
          · rcases List.mem_append.mp ha with q | q
            · exact x1.fr a q hn
            · rw [List.mem_singleton] at q; rw [q]; exact c3
        exact o _ χ1 H1 x2 (hr1.take_in c1 c2 c4 c5) _ (.plain (.ref (by rw [← hr1.len, List.getElem?_append_right (Nat.le_refl _), Nat.sub_self]; rfl)) (fun q => by cases q))
    · exact o.elim
/-- a name takes a comprehension's list, the block's names let go behind it -/
theorem set_comp {e c ee : E} {tg : List Nat} {src : Mp.It} {v : Expr} {i : Nat} {y : Str} {py spos : Pos} (F : Fit X Γ) (h : CompOk X W l Γ e tg src c v) (k : ∀ τ H Q, tM X W l ee τ H Q → tM X W l (.comp e tg src c) τ H Q)
    (hs : slotC Γ y i = true) (he : PE X v (tM X W l ee)) : PS X (.Assign [.Name y py] v spos) (tMS X W l (.set i ee)) := by
  obtain ⟨q1, q2, q3⟩ := slotC_ok F hs
  have hN : X.N.Nodup := by rw [F.N]; exact F.nd
  obtain ⟨elt, tgx, iter, ifs, scope, pos, own, rfl, hi, B, ho, hg, ht, hel, hsf⟩ := h.ex
  have sw : swapsWith (.ListComp elt [⟨tgx, iter, ifs, 0⟩] scope pos) (some (.Name y py)) spos.line X.env = pure (X.env.blockKind == .function && X.env.kindOf y == some .local && py.line == pos.line && !(scope.names.any fun (n, k) => n == y && (k == .local || k == .cell))) := rfl
  cases hb : (X.env.blockKind == .function && X.env.kindOf y == some .local && py.line == pos.line && !(scope.names.any fun (n, k) => n == y && (k == .local || k == .cell))) with
  | false => rw [hb] at sw; exact m_set hN q1 q2 he sw q3
  | true =>
    rw [hb] at sw
    have hl : X.env.scope.names.lookup y = some .local := by
      simp only [Bool.and_eq_true, beq_iff_eq] at hb
      exact hb.1.1.2
    exact psImp (ps_setLc F.calm hN q1 hl sw hi B hg ht hel hsf) fun D τ H ⟨φ, χ, σ, h, rs, hr, o⟩ => by
      unfold exS at o
      rw [ho]
      exact comp_run (k _ _ _ (tM.st rs hr o fun φ' χ' H' d h' v x hr' rv rs' g => g.nx hr' (rs'.set i rv)))
theorem nsts_of {as : List Expr} {es : EL} (h : PAs X W l as es) : as.all nst = true := by
  induction h with
  | nil => rfl
  | cons n _ _ ih => simp [n, ih]
/-- what is asked of all parts of a term -/
def OkE (X : Cx) (W : WX) (k : Nat) (l : List Nat) (e : E) : Prop := ∀ {Γ : Ce} {v : Expr}, Fit X Γ → Cxt X k → Takes X W → Uses X k (usesE e) → Both X W l Γ e v
mutual
theorem chkE_ok : ∀ (e : E) {X : Cx} {Γ : Ce} {W : WX} {v : Expr}, Fit X Γ → Cxt X k → Takes X W → Uses X k (usesE e) → Both X W l Γ e v
  | .no, X, Γ, W, v, F, C, T, U => ⟨fun h => by simp [chkE] at h, fun h => by simp [chkE] at h⟩
  | .var i, X, Γ, W, v, F, C, T, U => both fun t h => by
    unfold chkE at h
    split at h
    · obtain ⟨h, h4⟩ := and2 h
      obtain ⟨h, h3⟩ := and2 h
      obtain ⟨h1, h2⟩ := and2 h
      exact ⟨m_var (by rw [F.N]; exact of_decide_eq_true h1) (visC_ok F h2) (by simpa using h3) (by simpa using h4), rfl⟩
    · cases h
  | .cst d, X, Γ, W, v, F, C, T, U => both fun t h => by
    unfold chkE at h
    split at h
    · split at h
      · exact ⟨m_non, rfl⟩
      · obtain rfl := of_decide_eq_true h; exact ⟨m_bl, rfl⟩
      · obtain rfl := of_decide_eq_true h; exact ⟨m_int, rfl⟩
      · obtain rfl := of_decide_eq_true h; exact ⟨m_str, rfl⟩
      · cases h
    · cases h
  | .glob x d, X, Γ, W, v, F, C, T, U => both fun t h => by
    unfold chkE at h
    obtain ⟨p, rfl, g, db⟩ := nameIs_ok F h
    exact ⟨m_glob (U (.glob x d) (by simp [usesE])) g db, rfl⟩
  | .bop o a b, X, Γ, W, v, F, C, T, U => both fun t h => by
    unfold chkE at h
    split at h
    · obtain ⟨h, h3⟩ := and2 h
      obtain ⟨h1, h2⟩ := and2 h
      unfold usesE at U
      exact ⟨bopOf_ok (of_decide_eq_true h1) ((chkE_ok a F C T U.left).1 h2) ((chkE_ok b F C T U.right).1 h3), rfl⟩
    · cases h
  | .neg a, X, Γ, W, v, F, C, T, U => both fun t h => by
    unfold chkE at h
    split at h
    · unfold usesE at U
      exact ⟨m_neg ((chkE_ok a F C T U).1 h), rfl⟩
    · cases h
  | .not a, X, Γ, W, v, F, C, T, U => bothT (fun h => by
      unfold chkE at h
      split at h
      · unfold usesE at U; exact m_not ((chkE_ok a F C T U).1 h)
      · cases h) (fun h => by
      unfold chkE at h
      split at h
      · unfold usesE at U; exact ⟨m_notT ((chkE_ok a F C T U).2 h).1, fun _ _ _ e => nomatch e⟩
      · cases h)
  | .and a b, X, Γ, W, v, F, C, T, U => by
    unfold usesE at U
    refine ⟨fun h => ?_, fun h => ?_⟩
    · unfold chkE at h
      split at h
      · rename_i x y r p
        obtain ⟨h1, h2⟩ := and2 h
        refine m_and ((chkE_ok a F C T U.left).1 h1) ?_
        cases r with
        | nil => exact pe_one ((chkE_ok b F C T U.right).1 h2)
        | cons z r => exact (chkE_ok b F C T U.right).1 h2
      · cases h
    · unfold chkE at h
      split at h
      · rename_i x y r p
        obtain ⟨h1, h2⟩ := and2 h
        have q : PW X (.BoolOp .And (x :: y :: r) p) (tMt X W l (.and a b)) := by
          refine m_andW ((chkE_ok a F C T U.left).2 h1).1 ?_
          cases r with
          | nil => exact pw_and1 ((chkE_ok b F C T U.right).2 h2).1
          | cons z r => exact ((chkE_ok b F C T U.right).2 h2).2 _ _ _ rfl
        exact ⟨q.pt, fun _ _ _ _ => q⟩
      · cases h
  | .or a b, X, Γ, W, v, F, C, T, U => by
    unfold usesE at U
    refine ⟨fun h => ?_, fun h => ?_⟩
    · unfold chkE at h
      split at h
      · rename_i x y r p
        obtain ⟨h1, h2⟩ := and2 h
        refine m_or ((chkE_ok a F C T U.left).1 h1) ?_
        cases r with
        | nil => exact pe_one ((chkE_ok b F C T U.right).1 h2)
        | cons z r => exact (chkE_ok b F C T U.right).1 h2
      · cases h
    · unfold chkE at h
      split at h
      · rename_i x y r p
        obtain ⟨h1, h2⟩ := and2 h
        have q : PW X (.BoolOp .Or (x :: y :: r) p) (tMt X W l (.or a b)) := by
          refine m_orW ((chkE_ok a F C T U.left).2 h1).1 ?_
          cases r with
          | nil => exact pw_or1 ((chkE_ok b F C T U.right).2 h2).1
          | cons z r => exact ((chkE_ok b F C T U.right).2 h2).2 _ _ _ rfl
        exact ⟨q.pt, fun _ _ _ _ => q⟩
      · cases h
  | .cmp o a b, X, Γ, W, v, F, C, T, U => by
    unfold usesE at U
    refine bothT (fun h => ?_) (fun h => ?_) <;>
    · unfold chkE at h
      split at h
      · obtain ⟨h, h4⟩ := and2 h
        obtain ⟨h, h3⟩ := and2 h
        obtain ⟨h1, h2⟩ := and2 h
        obtain rfl := copOf_ok (of_decide_eq_true h1)
        first
          | exact m_cmpo (hu_of' C) (by simpa using h2) ((chkE_ok a F C T U.left).1 h3) ((chkE_ok b F C T U.right).1 h4)
          | exact ⟨m_cmpT (hu_of' C) (by simpa using h2) ((chkE_ok a F C T U.left).1 h3) ((chkE_ok b F C T U.right).1 h4), fun _ _ _ e => nomatch e⟩
      · cases h
  | .chain o p a b c, X, Γ, W, v, F, C, T, U => by
    unfold usesE at U
    refine bothT (fun h => ?_) (fun h => ?_) <;>
    · unfold chkE at h
      split at h
      · obtain ⟨h, h6⟩ := and2 h
        obtain ⟨h, h5⟩ := and2 h
        obtain ⟨h, h4⟩ := and2 h
        obtain ⟨h, h3⟩ := and2 h
        obtain ⟨h1, h2⟩ := and2 h
        obtain rfl := copOf_ok (of_decide_eq_true h1)
        obtain rfl := copOf_ok (of_decide_eq_true h2)
        first
          | exact m_chain (hu_of' C) (by simpa using h3) ((chkE_ok a F C T U.left).1 h4) ((chkE_ok b F C T U.right.left).1 h5) ((chkE_ok c F C T U.right.right).1 h6)
          | exact ⟨m_chainT (hu_of' C) (by simpa using h3) ((chkE_ok a F C T U.left).1 h4) ((chkE_ok b F C T U.right.left).1 h5) ((chkE_ok c F C T U.right.right).1 h6), fun _ _ _ e => nomatch e⟩
      · cases h
  | .isN a, X, Γ, W, v, F, C, T, U => by
    unfold usesE at U
    refine bothT (fun h => ?_) (fun h => ?_) <;>
    · unfold chkE at h
      split at h
      · first
          | exact m_isN ((chkE_ok a F C T U).1 h)
          | exact ⟨m_isNT ((chkE_ok a F C T U).1 h), fun _ _ _ e => nomatch e⟩
      · cases h
  | .notN a, X, Γ, W, v, F, C, T, U => by
    unfold usesE at U
    refine bothT (fun h => ?_) (fun h => ?_) <;>
    · unfold chkE at h
      split at h
      · first
          | exact m_notN ((chkE_ok a F C T U).1 h)
          | exact ⟨m_notNT ((chkE_ok a F C T U).1 h), fun _ _ _ e => nomatch e⟩
      · cases h
  | .isB a b, X, Γ, W, v, F, C, T, U => by
    unfold usesE at U
    refine bothT (fun h => ?_) (fun h => ?_) <;>
    · unfold chkE at h
      split at h
      · obtain ⟨h1, h2⟩ := and2 h
        obtain rfl := of_decide_eq_true h1
        first
          | exact m_isB ((chkE_ok a F C T U).1 h2)
          | exact ⟨m_isBT ((chkE_ok a F C T U).1 h2), fun _ _ _ e => nomatch e⟩
      · cases h
  | .notB a b, X, Γ, W, v, F, C, T, U => by
    unfold usesE at U
    refine bothT (fun h => ?_) (fun h => ?_) <;>
    · unfold chkE at h
      split at h
      · obtain ⟨h1, h2⟩ := and2 h
        obtain rfl := of_decide_eq_true h1
        first
          | exact m_notB ((chkE_ok a F C T U).1 h2)
          | exact ⟨m_notBT ((chkE_ok a F C T U).1 h2), fun _ _ _ e => nomatch e⟩
      · cases h
  | .ite c a b, X, Γ, W, v, F, C, T, U => by
    unfold usesE at U
    refine bothT (fun h => ?_) (fun h => ?_)
    · unfold chkE at h
      split at h
      · obtain ⟨h, h3⟩ := and2 h
        obtain ⟨h, h2⟩ := and2 h
        obtain ⟨_, h1⟩ := and2 h
        exact m_ite ((chkE_ok c F C T U.left).2 h1).1 ((chkE_ok a F C T U.right.left).1 h2) ((chkE_ok b F C T U.right.right).1 h3)
      · cases h
    · unfold chkE at h
      split at h
      · simp at h
      · cases h
  | .tup es, X, Γ, W, v, F, C, T, U => both fun t h => by
    unfold chkE at h
    split at h
    · unfold usesE at U
      exact ⟨m_tup (chkL_ok es F C T U h).pa, rfl⟩
    · cases h
  | .lst es, X, Γ, W, v, F, C, T, U => both fun t h => by
    unfold chkE at h
    split at h
    · unfold usesE at U
      exact ⟨m_lst (chkL_ok es F C T U h).pa, rfl⟩
    · cases h
  | .ix a b, X, Γ, W, v, F, C, T, U => both fun t h => by
    unfold chkE at h
    split at h
    · obtain ⟨h, h3⟩ := and2 h
      obtain ⟨h1, h2⟩ := and2 h
      unfold usesE at U
      exact ⟨m_ix (plainIx_ok h1) ((chkE_ok a F C T U.left).1 h2) ((chkE_ok b F C T U.right).1 h3), rfl⟩
    · cases h
  | .sl a lo hi, X, Γ, W, v, F, C, T, U => both fun t h => by
    unfold chkE at h
    split at h
    · obtain ⟨h, h3⟩ := and2 h
      obtain ⟨h1, h2⟩ := and2 h
      unfold usesE at U
      refine ⟨m_sl ((chkE_ok a F C T U.left).1 h1) ?_ ?_, rfl⟩
      · split at h2
        · cases lo with
          | no => exact m_noPart
          | _ => cases h2
        · obtain ⟨q1, q2⟩ := and2 h2
          exact m_part (by simpa using q1) ((chkE_ok lo F C T U.right.left).1 q2)
      · split at h3
        · cases hi with
          | no => exact m_noPart
          | _ => cases h3
        · obtain ⟨q1, q2⟩ := and2 h3
          exact m_part (by simpa using q1) ((chkE_ok hi F C T U.right.right).1 q2)
    · cases h
  | .rev a, X, Γ, W, v, F, C, T, U => both fun t h => by
    unfold chkE at h
    split at h
    · unfold usesE at U
      exact ⟨m_rev ((chkE_ok a F C T U).1 h), rfl⟩
    · cases h
  | .call x f es, X, Γ, W, v, F, C, T, U => both fun t h => by
    unfold chkE at h
    split at h
    · rename_i f' as pos
      obtain ⟨h, h3⟩ := and2 h
      obtain ⟨h1, h2⟩ := and2 h
      obtain ⟨p, rfl, g, db⟩ := nameIs_ok F h1
      unfold usesE at U
      have c : CallOk X.prog X.w X.K X.mg X.base k x f := U (.fn x f) (by simp)
      have q := chkL_ok (W := W) es F C T (fun u hu => U u (by simp [hu])) h3
      cases q with
      | nil => exact ⟨m_call0 c C.room C.gu T g db, rfl⟩
      | @cons a as e es n pe t =>
        have h2' : as.all nst = true := by
          have : nst a = true ∧ as.all nst = true := by simpa using h2
          exact this.2
        exact ⟨m_call c C.room C.gu T g db (PAs.cons n pe t).pa (star1 n) (stars h2'), rfl⟩
    · cases h
  | .blt b es, X, Γ, W, v, F, C, T, U => both fun t h => by
    unfold chkE at h
    split at h
    · rename_i as e
      unfold usesE at U
      refine ⟨blt_ok F C e (chkL_ok es F C T U h), ?_⟩
      cases v <;> first
        | rfl
        | (exfalso; cases b <;> simp [bltC, call1C, call2C] at e)
    · cases h
  | .isin a ts, X, Γ, W, v, F, C, T, U => both fun t h => by
    unfold chkE at h
    split at h
    · obtain ⟨h, h5⟩ := and2 h
      obtain ⟨h, h4⟩ := and2 h
      obtain ⟨h, h3⟩ := and2 h
      obtain ⟨h1, h2⟩ := and2 h
      obtain ⟨p, rfl, g, db⟩ := nameIs_ok F h1
      unfold usesE at U
      exact ⟨isin_ok F C h4 h2 g ((chkE_ok a F C T U).1 h5), rfl⟩
    · cases h
  | .comp e tg src c, X, Γ, W, v, F, C, T, U => both fun t h => by
    have q : CompOk X W l Γ e tg src c v := comp_ok F C U h (fun F' C' T' U' => chkE_ok e F' C' T' U') (fun F' C' T' U' => chkE_ok c F' C' T' U') (fun h => chkI_ok src F C T (by unfold usesE at U; exact U.right.left) h)
    refine ⟨q.pe F, ?_⟩
    obtain ⟨_, _, _, _, _, _, _, rfl, _⟩ := q.ex
    rfl
  | .alloc e, X, Γ, W, v, F, C, T, U => by
    unfold usesE at U
    refine ⟨fun h => ?_, fun h => ?_⟩
    · unfold chkE at h
      obtain ⟨h, h2⟩ := and2 h
      obtain ⟨_, h1⟩ := and2 h
      exact m_alloc h1 ((chkE_ok e F C T U).1 h2)
    · unfold chkE at h
      simp at h
  | .fld _ _, X, Γ, W, v, F, C, T, U => ⟨fun h => by simp [chkE] at h, fun h => by simp [chkE] at h⟩
  | .meth _ _ _ _ _, X, Γ, W, v, F, C, T, U => ⟨fun h => by simp [chkE] at h, fun h => by simp [chkE] at h⟩
  | .make _ _ _, X, Γ, W, v, F, C, T, U => ⟨fun h => by simp [chkE] at h, fun h => by simp [chkE] at h⟩
  | .bm m a es, X, Γ, W, v, F, C, T, U => both fun t h => by
    unfold chkE at h
    split at h
    · rename_i o as e
      obtain ⟨h1, h2⟩ := and2 h
      unfold usesE at U
      obtain ⟨ap, cp, rfl, _, _, _, _, _⟩ := bmC_ok e
      exact ⟨bm_ok e ((chkE_ok a F C T U.left).1 h1) (chkL_ok es F C T U.right h2), rfl⟩
    · cases h
theorem chkL_ok : ∀ (es : EL) {X : Cx} {Γ : Ce} {W : WX} {as : List Expr}, Fit X Γ → Cxt X k → Takes X W → Uses X k (usesL es) → chkL Γ es as = true → PAs X W l as es
  | .nil, X, Γ, W, as, F, C, T, U, h => by
    unfold chkL at h
    cases as with
    | nil => exact .nil
    | cons _ _ => cases h
  | .cons e es, X, Γ, W, as, F, C, T, U, h => by
    unfold chkL at h
    split at h
    · obtain ⟨h, h3⟩ := and2 h
      obtain ⟨h1, h2⟩ := and2 h
      unfold usesL at U
      exact .cons h1 ((chkE_ok e F C T U.left).1 h2) (chkL_ok es F C T U.right h3)
    · cases h
theorem chkI_ok : ∀ (i : Mp.It) {X : Cx} {Γ : Ce} {W : WX} {tgx v : Expr}, Fit X Γ → Cxt X k → Takes X W → Uses X k (usesI i) → chkI Γ i v = true → PI X tgx v (iM X W l i)
  | .seq a, X, Γ, W, tgx, v, F, C, T, U, h => by
    unfold chkI at h
    unfold usesI at U
    exact m_srcSeq ((chkE_ok a F C T U).1 h)
  | .rg1 a, X, Γ, W, tgx, v, F, C, T, U, h => by
    unfold chkI at h
    unfold usesI at U
    split at h
    · rename_i x e
      obtain ⟨p, pos, a', as', rfl, e2, g, d, n1, n2⟩ := call1C_ok F e
      cases e2
      exact m_srcRg1 g (free_of C (x := "range") (by decide)) ((chkE_ok a F C T U).1 h) (star1 n1)
    · cases h
  | .rg2 a b, X, Γ, W, tgx, v, F, C, T, U, h => by
    unfold chkI at h
    unfold usesI at U
    split at h
    · rename_i x y e
      obtain ⟨p, pos, a', as', rfl, e2, g, d, n1, n2⟩ := call1C_ok F e
      cases e2
      obtain ⟨h1, h2⟩ := and2 h
      have n3 : nst y = true := by simpa using n2
      exact m_srcRg2 g (free_of C (x := "range") (by decide)) ((chkE_ok a F C T U.left).1 h1) ((chkE_ok b F C T U.right).1 h2) (by rw [star1 n1, star1 n3]; rfl) (star1 n3)
    · cases h
  | .enum a, X, Γ, W, tgx, v, F, C, T, U, h => by simp [chkI] at h
  | .zip a b, X, Γ, W, tgx, v, F, C, T, U, h => by simp [chkI] at h
end
/-! ### statements -/
theorem assign_ix {o i : Expr} {pos : Pos} {env : Env} (h : plainIx i = true) : ∀ v, assign (.Subscript o i pos) env v = (do
      let ov ← holding [v] (eval o env)
      let iv ← holding [v, ov] (eval i env)
      standAt pos
      holding [v, ov, iv] (PySem.setItem ov iv v)
      release [v, ov, iv] []) := by
  intro v
  cases i <;> first | rfl | cases h
mutual
theorem chkS_ok : ∀ (s : S) {X : Cx} {Γ : Ce} {W : WX} {st : Stmt}, Fit X Γ → Cxt X k → Takes X W → PassesOwn (model X.prog X.w) X.A X.env X.xe → Uses X k (usesS s) → chkS Γ s st = true → PS X st (tMS X W l s)
  | .ex e, X, Γ, W, st, F, C, T, P, U, h => by
    unfold chkS at h
    unfold usesS at U
    split at h
    · obtain ⟨h1, h2⟩ := and2 h
      exact m_ex ((chkE_ok e F C T U).1 h2) (noLc_ok h1 _ _)
    · cases h
  | .set i e, X, Γ, W, st, F, C, T, P, U, h => by
    unfold chkS at h
    unfold usesS at U
    split at h
    · rename_i x p v pos
      obtain ⟨h, h3⟩ := and2 h
      obtain ⟨h1, h2⟩ := and2 h
      obtain ⟨q1, q2, q3⟩ := slotC_ok F h1
      have pe : PE X v (tM X W l e) := (chkE_ok e F C T U).1 h2
      have plain : noLc v = true → PS X (.Assign [.Name x p] v pos) (tMS X W l (.set i e)) := fun hn => m_set (by rw [F.N]; exact F.nd) q1 q2 pe (noLc_ok hn _ _) q3
      cases hn : noLc v with
      | true => exact plain hn
      | false =>
        have hc : isLc e = true := by rw [hn] at h3; simpa using h3
        match e, U, h2, pe, hc with
        | .comp e' tg src c, U, h2, pe, _ =>
          have q : CompOk X W l Γ e' tg src c v := comp_ok F C U h2 (fun F' C' T' U' => chkE_ok e' F' C' T' U') (fun F' C' T' U' => chkE_ok c F' C' T' U') (fun h => chkI_ok src F C T (by unfold usesE at U; exact U.right.left) h)
          exact set_comp F q (fun _ _ _ z => z) h1 pe
        | .alloc (.comp e' tg src c), U, h2, pe, _ =>
          have U' : Uses X k (usesE (.comp e' tg src c)) := by unfold usesE at U; exact U
          have h4 : chkE false Γ (.comp e' tg src c) v = true := by
            have h2' : (!false && (E.comp e' tg src c).fresh && chkE false Γ (.comp e' tg src c) v) = true := h2
            exact (and2 h2').2
          have q : CompOk X W l Γ e' tg src c v := comp_ok F C U' h4 (fun F' C' T' U' => chkE_ok e' F' C' T' U') (fun F' C' T' U' => chkE_ok c F' C' T' U') (fun h => chkI_ok src F C T (by unfold usesE at U'; exact U'.right.left) h)
          exact set_comp F q (tM.alloc rfl) h1 pe
    · cases h
  | .unp is e, X, Γ, W, st, F, C, T, P, U, h => by
    unfold chkS at h
    unfold usesS at U
    split at h
    · rename_i ts k' tp v pos
      obtain ⟨h, h3⟩ := and2 h
      obtain ⟨h1, h2⟩ := and2 h
      obtain ⟨q1, q2, q3⟩ := slotsC_ok F h1
      refine m_unp ((chkE_ok e F C T U).1 h3) (pg_tup F.calm q1 q2 q3) ?_ (unp_sw (by rw [F.sc]; exact h2)) rfl
      show swapsWith v (some (.Tuple ts k' tp)) pos.line X.env = pure false
      cases v <;> first | rfl | (simp [unpC, noLc] at h2)
    · cases h
  | .par i j es, X, Γ, W, st, F, C, T, P, U, h => by
    unfold chkS at h
    unfold usesS at U
    split at h
    · rename_i x px y py k1 p1 a b k2 p2 pos
      obtain ⟨h, h5⟩ := and2 h
      obtain ⟨h, h4⟩ := and2 h
      obtain ⟨h, h3⟩ := and2 h
      obtain ⟨h1, h2⟩ := and2 h
      obtain ⟨q1, _, _⟩ := slotC_ok F h1
      obtain ⟨r1, _, _⟩ := slotC_ok F h2
      have h4' : parC X.env.scope x y px py a b = true := by rw [F.sc]; exact h4
      have lx : X.env.scope.names.lookup x = some .local ∧ X.env.scope.names.lookup y = some .local := by
        unfold parC at h4'
        simp only [Bool.and_eq_true] at h4'
        exact ⟨locC_ok h4'.1.1.1.1.1.1.1, locC_ok h4'.1.1.1.1.1.1.2⟩
      exact m_par F.calm (by rw [F.N]; exact F.nd) q1 r1 (by simpa using h3) lx.1 lx.2 (chkL_ok es F C T U h5).pa (par_sw F.kind h4') rfl
    · cases h
  | .ixSet o i e, X, Γ, W, st, F, C, T, P, U, h => by
    unfold chkS at h
    unfold usesS at U
    split at h
    · rename_i x y ps v pos
      obtain ⟨h, h5⟩ := and2 h
      obtain ⟨h, h4⟩ := and2 h
      obtain ⟨h, h3⟩ := and2 h
      obtain ⟨h1, h2⟩ := and2 h
      refine m_ixSet ((chkE_ok o F C T U.left).1 h3) ((chkE_ok i F C T U.right.left).1 h4) ((chkE_ok e F C T U.right.right).1 h5) (assign_ix h1) (noLc_ok (env := X.env) h2 (some (.Subscript x y ps)) pos.line) rfl rfl
    · cases h
  | .fldSet _ _ _, X, Γ, W, st, F, C, T, P, U, h => by simp [chkS] at h
  | .ret e, X, Γ, W, st, F, C, T, P, U, h => by
    unfold chkS at h
    unfold usesS at U
    split at h
    · exact m_ret ((chkE_ok e F C T U).1 h)
    · split at h
      · exact m_retN
      · cases h
    · cases h
  | .ite c a b, X, Γ, W, st, F, C, T, P, U, h => by
    unfold chkS at h
    unfold usesS at U
    split at h
    · obtain ⟨h, h3⟩ := and2 h
      obtain ⟨h1, h2⟩ := and2 h
      exact m_iteS ((chkE_ok c F C T U.left).2 h1).1 (chkSL_ok a F C T P U.right.left h2) (chkSL_ok b F C T P U.right.right h3)
    · cases h
  | .for_ tg src body kl, X, Γ, W, st, F, C, T, P, U, h => by
    unfold chkS at h
    unfold usesS at U
    split at h
    · obtain ⟨h, h4⟩ := and2 h
      obtain ⟨h, h3⟩ := and2 h
      obtain ⟨h1, h2⟩ := and2 h
      exact m_for P F.calm (chkI_ok src F C T U.left h3) (tgC_ok F h1) (chkSL_ok body F C T P U.right h4) (noSet_ok h2)
    · cases h
  | .while_ c body kl, X, Γ, W, st, F, C, T, P, U, h => by
    unfold chkS at h
    unfold usesS at U
    split at h
    · obtain ⟨h1, h2⟩ := and2 h
      exact m_while P ((chkE_ok c F C T U.left).2 h1).1 (chkSL_ok body F C T P U.right h2)
    · cases h
  | .raise _ _, X, Γ, W, st, F, C, T, P, U, h => by simp [chkS] at h
  | .try_ _ _ _ _, X, Γ, W, st, F, C, T, P, U, h => by simp [chkS] at h
  | .pass, X, Γ, W, st, F, C, T, P, U, h => by
    unfold chkS at h
    split at h
    · exact m_pass
    · exact m_docS
    · cases h
  | .kill _, X, Γ, W, st, F, C, T, P, U, h => by simp [chkS] at h
theorem chkSL_ok : ∀ (ss : SL) {X : Cx} {Γ : Ce} {W : WX} {sts : List Stmt}, Fit X Γ → Cxt X k → Takes X W → PassesOwn (model X.prog X.w) X.A X.env X.xe → Uses X k (usesSL ss) → chkSL Γ ss sts = true → PSs X sts (tML X W l ss)
  | .nil, X, Γ, W, sts, F, C, T, P, U, h => by
    unfold chkSL at h
    cases sts with
    | nil => exact m_nilS
    | cons _ _ => cases h
  | .cons s ss, X, Γ, W, sts, F, C, T, P, U, h => by
    unfold chkSL at h
    unfold usesSL at U
    split at h
    · exact m_killS (chkSL_ok ss F C T P U.right h)
    · split at h
      · obtain ⟨h1, h2⟩ := and2 h
        exact m_consS (chkS_ok s F C T P U.left h1) (chkSL_ok ss F C T P U.right h2)
      · cases h
end
end
end Mp

set_option maxRecDepth 100000
/-! Mp5: defs by their checks; a law's end. -/
namespace Mp
open PySem PySem.Spec PyProof.Rows L2

/-- a def's names -/
def scC (N ps : List Str) (sc : Scope) : Bool :=
  decide (sc.kind = .function) && !sc.isCoroutine && !sc.isGenerator && decide N.Nodup && decide (N.take ps.length = ps) && (ps.all fun x => locC sc x || celC sc x) && (sc.names.all fun y => decide (y.2 ≠ .free))
theorem scC_ok {N ps : List Str} {sc : Scope} (h : scC N ps sc = true) : FnScope N ps sc := by
  unfold scC at h
  simp only [Bool.and_eq_true, decide_eq_true_eq, Bool.not_eq_true', List.all_eq_true, Bool.or_eq_true] at h
  obtain ⟨⟨⟨⟨⟨⟨h1, h2⟩, h3⟩, h4⟩, h5⟩, h6⟩, h7⟩ := h
  exact ⟨h1, h2, h3, h4, h5, fun x hx => (h6 x hx).imp locC_ok celC_ok, h7⟩
/-- a def's text is its term's -/
def defC (st : Stmt) (N ps : List Str) (f : Fn) : Bool :=
  scC N ps (defScope st) && decide (N.length = f.ns) && decide (ps.length = f.np) && chkSL ⟨N, defScope st, fun _ => true⟩ f.body (defBody st)
section
variable {P : Program} {w : World} {K : PySem.W.Frag} {mg : Str → Option Value} {base : Heap} {k : Nat}
theorem def_ok {x qual : Str} {st : Stmt} {a : Addr} {fd : FuncData} {N ps : List Str} {f : Fn} (F : Fun K x qual st a fd) (h : defC st N ps f = true) (fr : ∀ x ∈ bltNames, mg (Str.ofString x) = none) (us : ∀ u ∈ usesSL f.body, UseOk P w K mg base k u) : FnG P w K mg base (k + 1) a fd ps f := by
  obtain ⟨np, ns, keep, sb⟩ := f
  unfold defC at h
  simp only [Bool.and_eq_true, decide_eq_true_eq] at h
  obtain ⟨⟨⟨h1, h2⟩, h3⟩, h4⟩ := h
  have S := scC_ok h1
  refine fnG_of F S h2 h3 fun l cdv A outer s H E room gu => ?_
  exact chkSL_ok (k := k) (l := l) sb ⟨rfl, rfl, rfl, S.nd, rfl, S.kind⟩ ⟨room, gu, fr⟩ (takes_of rfl rfl rfl rfl) (passes_of rfl) us h4
/-- .. as a name's value -/
theorem call_ok {x : String} {st : Stmt} {a : Addr} {fd : FuncData} {N ps : List Str} {f : Fn} (F : Fun K (Str.ofString x) (Str.ofString x) st a fd) (hm : mg (Str.ofString x) = some (.ref a)) (bd : Binds K fd ps []) (h : defC st N ps f = true)
    (fr : ∀ x ∈ bltNames, mg (Str.ofString x) = none) (us : ∀ u ∈ usesSL f.body, UseOk P w K mg base k u) : CallOk P w K mg base (k + 1) x f := ⟨⟨a, fd, ps, hm, F.kp, bd, def_ok F h fr us⟩⟩
theorem CallOk.mono {j : Nat} {x : String} {f : Fn} (c : CallOk P w K mg base j x f) (h : j ≤ k) : CallOk P w K mg base k x f := by
  obtain ⟨a, fd, ps, h1, h2, h3, g⟩ := c.ex
  exact ⟨⟨a, fd, ps, h1, h2, h3, g.mono h⟩⟩
end

/-- the law's def says True of every script of its size -/
def Keeps (n : Nat) (f : Fn) : Prop := ∀ ns : List Int, ns.length ≤ n → ∃ h, callF [] f [.scr ns] [] = .ok (.bl true) h
/-- what the machine is to show of a law's call -/
abbrev Said (s₁ : Shared) : Result → Shared → Prop := fun r s' => r = .ok (.ret (.bool true)) ∧ OldK s₁.heap s'.heap ∧ s'.os = s₁.os ∧ AllBare s'.gens
section
variable {P : Program} {w : World} {K : PySem.W.Frag} {mg mb : Str → Option Value} {k n : Nat} {fa a : Addr} {fd : FuncData} {x : Str} {f : Fn} {s₁ : Shared} {vs : List Value} {ns : List Int}
/-- from a heap that tracks the script at most -/
theorem law_from (H : Hp) (only : Only H) (sc : Sc K H a (ns.map V.int)) (hok : HOk P w H s₁.heap) (alone : ∀ b, H b ≠ none → b = a) (notK : H a ≠ none → K.lookup a = none)
    (KX : K.In s₁.heap) (hns : s₁.heap.Ns mainGlobals mg) (hb : s₁.heap.Ns builtinsNs mb) (hbb : ∀ x : Str, x ≠ "__name__" → mb x = bootBuiltins x) (hlim : s₁.heap.NoLimit) (hg : s₁.gens = #[])
    (ha : s₁.heap.get? a = some { cls := .type "list", data := .seq vs.toArray }) (room : Room k callerA) (G : ∀ base : Heap, K.In base → base.Ns mainGlobals mg → FnG P w K mg base k fa fd [x] f)
    (bd : ∀ (s : Shared) (u : Value), BindsTo s fd ⟨[u], []⟩ [(x, u)]) (law : ∃ h, callF [] f [.scr ns] [] = .ok (.bl true) h) : codeAny (model P w) callerA (.call (.ref fa) ⟨[.ref a], []⟩) (Said s₁) s₁ := by
  have stays : ∀ {b : Addr} {o : Obj}, s₁.heap.get? b = some o → H b = none → (hidT s₁.heap H).get? b = some o := fun e nb => hidT_get e nb
  have isA : ∀ {b : Addr}, H b ≠ none → b = a := fun {b} q => alone b q
  have dict : ∀ {b : Addr} {o : Obj} {es : Array DictEntry} {ep : Nat}, s₁.heap.get? b = some o → o.data = .dict es ep → H b = none := by
    intro b o es ep e d
    by_cases q : H b = none
    · exact q
    · obtain rfl := isA q
      rw [ha] at e
      cases e
      cases d
  have nsT : ∀ {b : Addr} {m : Str → Option Value}, s₁.heap.Ns b m → (hidT s₁.heap H).Ns b m := by
    rintro b m ⟨o, es, ep, e, d, r⟩
    exact ⟨o, es, ep, stays e (dict e d), d, r⟩
  have kT : K.In (hidT s₁.heap H) := by
    intro b o e
    refine stays (KX b o e) ?_
    by_cases q : H b = none
    · exact q
    · obtain rfl := isA q
      rw [notK q] at e
      cases e
  obtain ⟨mc, c1, c2⟩ := hlim
  have e0 : Env0 P w K mg (hidT s₁.heap H) callerA [] s₁ H :=
    { frames := rfl, mod := ⟨kT, nsT hns, ⟨mb, nsT hb, hbb⟩, ⟨mc, nsT c1, c2⟩⟩, bs := fun b o e => of_hidT e, bsz := Nat.le_of_eq (hidT_size _ _), funs := trivial, frf := (fun b q => nomatch q), hok := hok, bare := .of_eq hg }
  obtain ⟨hz, ez⟩ := law
  have sp : spM K mg [] f [.ref a] H (fun v _ => v = .bl true) (fun _ _ _ => False) := by
    refine ⟨[], fun _ => False, [], [.scr ns], .cons (.scr sc) .nil, ⟨rfl, List.nodup_nil, (fun _ q => nomatch q), (fun _ _ _ q => by simp at q), (fun _ q => nomatch q), (fun _ q => nomatch q), fun _ q => q.elim⟩, ?_⟩
    rw [ez]
    intro φ' χ' H' _ _ v rv
    cases rv
    rfl
  refine codeAny_mono ((G _ kT (nsT hns)).go [] callerA [] s₁ H ⟨[.ref a], []⟩ [.ref a] [.ref a] _ _ room rfl e0 (bd s₁ (.ref a)) (.cons rfl .nil) sp) fun r s' out => ?_
  cases r with
  | error e => obtain ⟨_, _, _, _, _, _, _, _, _, _, _, _, no⟩ := out; exact no.elim
  | ok fl =>
    cases fl with
    | next => exact out.elim
    | brk => exact out.elim
    | cont => exact out.elim
    | ret u =>
      obtain ⟨v, H', os, bare, un, hok', ru, q⟩ := out
      obtain rfl : v = .bl true := q
      obtain rfl : u = Value.bool true := ru
      refine ⟨rfl, .of_keep fun b o e => ?_, os, bare⟩
      rcases only b with z | ⟨ob, xs, z⟩
      · exact un.keep b o e z (by simp [frs]) (by simp)
      · obtain ⟨e1, _⟩ := hok b _ z
        obtain ⟨e2, _⟩ := hok' b _ (un.frzs b ob _ z)
        rw [e] at e1
        cases e1
        exact e2
theorem law_run (KX : K.In s₁.heap) (hns : s₁.heap.Ns mainGlobals mg) (hb : s₁.heap.Ns builtinsNs mb) (hbb : ∀ x : Str, x ≠ "__name__" → mb x = bootBuiltins x) (hlim : s₁.heap.NoLimit) (hg : s₁.gens = #[])
    (ha : s₁.heap.get? a = some { cls := .type "list", data := .seq vs.toArray }) (hi : IntsAre vs ns) (hl : ns.length ≤ sizeLine) (room : Room k callerA) (G : ∀ base : Heap, K.In base → base.Ns mainGlobals mg → FnG P w K mg base k fa fd [x] f)
    (bd : ∀ (s : Shared) (u : Value), BindsTo s fd ⟨[u], []⟩ [(x, u)]) (law : ∃ h, callF [] f [.scr ns] [] = .ok (.bl true) h) : codeAny (model P w) callerA (.call (.ref fa) ⟨[.ref a], []⟩) (Said s₁) s₁ := by
  have rv := vals_ints hi
  cases hk : K.lookup a with
  | some o =>
    have e := KX a o hk
    rw [ha] at e
    cases e
    refine law_from (fun _ => none) (fun _ => .inl rfl) (.inr ⟨_, vs.toArray, _, hk, rfl, rfl, rfl, ?_, by simpa using rv⟩) (fun b u z => by cases z) (fun b z => absurd rfl z) (fun z => absurd rfl z) KX hns hb hbb hlim hg ha room G bd law
    rw [List.size_toArray, hi.length]; exact hl
  | none =>
    let H : Hp := fun b => if b = a then some (.frz { cls := .type "list", data := .seq vs.toArray } (.lst (ns.map V.int))) else none
    have at_a : H a = some (.frz { cls := .type "list", data := .seq vs.toArray } (.lst (ns.map V.int))) := if_pos rfl
    have off : ∀ {b}, b ≠ a → H b = none := fun h => if_neg h
    have is_a : ∀ {b}, H b ≠ none → b = a := fun {b} q => by
      by_cases e : b = a
      · exact e
      · exact absurd (off e) q
    refine law_from H (fun b => ?_) (.inl ⟨_, at_a⟩) (fun b u z => ?_) (fun b => is_a) (fun _ => hk) KX hns hb hbb hlim hg ha room G bd law
    · by_cases e : b = a
      · rw [e]; exact .inr ⟨_, _, at_a⟩
      · exact .inl (off e)
    · have e : b = a := is_a (by rw [z]; simp)
      subst e
      rw [at_a] at z
      cases z
      exact ⟨ha, by rw [List.length_map]; exact hl, vs, _, rv, ha⟩
/-- the goal behind k_head, from the law's term -/
theorem walk_law {l : PySem.W.OpenLaw} {q : Program} {loose : List Str} {XP : (Str → Option Value) → Heap → Prop} {YP : World → Heap → Prop} {d : DefRec} {K : Params → PySem.W.Frag}
    (hn : l.most = some n) (hn2 : n ≤ sizeLine) (hdf : d.params.defaults = []) (room : Room k callerA) (hY : ∀ (w : World) (h : Heap), YP w h → (K w.params).In h) (law : Keeps n f)
    (G : ∀ (w : World) (mg : Str → Option Value) (fa : Addr) (h : Heap), (K w.params).In h → h.Ns mainGlobals mg → mg d.name = some (.ref fa) →
      ∃ fd : FuncData, (∀ (s : Shared) (u : Value), BindsTo s fd ⟨[u], []⟩ [(x, u)]) ∧ ∀ base : Heap, (K w.params).In base → base.Ns mainGlobals mg → FnG l.prog w (K w.params) mg base k fa fd [x] f) :
    PySem.W.WalkO q loose XP YP l.row.toRowW d [] (fun f vs => PySem.call f vs) := by
  refine Att.attach_call hn hdf fun w s₀ s₁ mg mb fa o pm cd doc a vs ns top Y ho hd hcd hmg hobj hints hlen hg => ?_
  obtain ⟨fd, bd, go⟩ := G w mg fa _ (hY w _ Y) top.T.g hmg
  exact law_run (hY w _ Y) top.T.g top.T.b top.T.builtins top.T.nolimit hg hobj hints (Nat.le_trans hlen hn2) room go bd (law ns hlen)
end
/-- a def as it stands behind the top, by what the written part says -/
structure Dfn (K : PySem.W.Frag) (x : String) (st : Stmt) (ps : List Str) : Prop where
  ex : ∃ (a : Addr) (fd : FuncData), PySem.W.nsIn K mainGlobals (Str.ofString x) = some (some (.ref a)) ∧ Fun K (Str.ofString x) (Str.ofString x) st a fd ∧ ∀ us : List Value, us.length = ps.length → bindArgs fd ⟨us, []⟩ = pure (ps.zip us)
theorem dfn_mk {K : PySem.W.Frag} {x : String} {st : Stmt} {ps : List Str} {f : Addr} {oc : Value} {od an : Option Addr} {osl : Array (Option Value)} {kV doc pm cdv ct : Value} (g : PySem.W.nsIn K mainGlobals (Str.ofString x) = some (some (.ref f)))
    (l : K.lookup f = some ⟨oc, od, .func (PySem.W.fnOf (Str.ofString x) (Str.ofString x) (defArgs st) (defBody st) (defScope st) .none kV doc pm an cdv ct), osl⟩) (c : PySem.W.codeIn K cdv (Str.ofString x) = true) (k : PySem.W.keepIn K (.ref f) = true)
    (b : ∀ (kV doc pm : Value) (an : Option Addr) (cdv ct : Value) (us : List Value), us.length = ps.length → bindArgs (PySem.W.fnOf (Str.ofString x) (Str.ofString x) (defArgs st) (defBody st) (defScope st) .none kV doc pm an cdv ct) ⟨us, []⟩ = pure (ps.zip us)) : Dfn K x st ps :=
  ⟨⟨f, _, g, fun_mk l c k, b kV doc pm an cdv ct⟩⟩
section
variable {P : Program} {w : World} {K : PySem.W.Frag} {mg : Str → Option Value} {base h : Heap} {k : Nat} {x : String} {st : Stmt} {N ps : List Str} {f : Fn}
theorem Dfn.call (d : Dfn K x st ps) (X : K.In h) (G : h.Ns mainGlobals mg) (c : defC st N ps f = true) (fr : ∀ x ∈ bltNames, PySem.W.nsIn K mainGlobals (Str.ofString x) = some none) (us : ∀ u ∈ usesSL f.body, UseOk P w K mg base k u) : CallOk P w K mg base (k + 1) x f := by
  obtain ⟨a, fd, g, F, b⟩ := d.ex
  exact call_ok F (PySem.W.mg_of X G g) (.all b) c (fun x hx => PySem.W.mg_none_of X G (fr x hx)) us
theorem law_go {y : Str} {fa : Addr} (d : Dfn K x st [y]) (X : K.In h) (G : h.Ns mainGlobals mg) (hfa : mg (Str.ofString x) = some (.ref fa)) (c : defC st N [y] f = true) (fr : ∀ x ∈ bltNames, PySem.W.nsIn K mainGlobals (Str.ofString x) = some none)
    (us : ∀ base : Heap, K.In base → base.Ns mainGlobals mg → ∀ u ∈ usesSL f.body, UseOk P w K mg base k u) :
    ∃ fd : FuncData, (∀ (s : Shared) (u : Value), BindsTo s fd ⟨[u], []⟩ [(y, u)]) ∧ ∀ base : Heap, K.In base → base.Ns mainGlobals mg → FnG P w K mg base (k + 1) fa fd [y] f := by
  obtain ⟨a, fd, g, F, b⟩ := d.ex
  have e := hfa.symm.trans (PySem.W.mg_of X G g)
  cases e
  refine ⟨fd, fun s u => .of_eq (b [u] rfl), fun base hb gb => def_ok F c (fun x hx => PySem.W.mg_none_of X G (fr x hx)) (us base hb gb)⟩
end
end Mp

set_option maxRecDepth 100000
/-! Mq0: the evaluator's rows, one by one (printed by eqs.py from Mp1); loops stand closed. -/
namespace Mp
open PySem
noncomputable def whileE (l : List Nat) (c : E) (body : SL) (kill : List Nat) (σ : Sg) (h : Hh) : R Fl := whileL (evE l c) (thenK kill (exL l body)) σ h
noncomputable def forE (l : List Nat) (tg : List Nat) (body : SL) (kill : List Nat) (w : Wt) (ds : List D) (σ : Sg) (h : Hh) : R Fl := forL w (turnK tg kill (exL l body)) ds σ h
noncomputable def compE (l : List Nat) (e : E) (tg : List Nat) (c : E) (w : Wt) (ds : List D) (σ : Sg) (h : Hh) : R (List D) := compL w (itemK tg σ (isNo c) (evE l c) (evE l e)) ds h
section
variable {l : List Nat} {σ : Sg} {h : Hh}
@[simp] theorem evE_no  : evE l (E.no) σ h =
    .ok .non h := by
  conv => lhs; unfold evE
  try rfl
@[simp] theorem evE_var {i : _} : evE l (E.var i) σ h =
    varV σ i h := by
  conv => lhs; unfold evE
  try rfl
@[simp] theorem evE_cst {d : _} : evE l (E.cst d) σ h =
    .ok d h := by
  conv => lhs; unfold evE
  try rfl
@[simp] theorem evE_glob {u1 : _} {d : _} : evE l (E.glob u1 d) σ h =
    .ok d h := by
  conv => lhs; unfold evE
  try rfl
@[simp] theorem evE_bop {o : _} {a : _} {b : _} : evE l (E.bop o a b) σ h =
    (evE l a σ h).bind fun x h => (evE l b σ h).bind fun y h => bop o h x y := by
  conv => lhs; unfold evE
  try rfl
@[simp] theorem evE_neg {a : _} : evE l (E.neg a) σ h =
    (evE l a σ h).bind fun x h => negV h x := by
  conv => lhs; unfold evE
  try rfl
@[simp] theorem evE_not {a : _} : evE l (E.not a) σ h =
    (evE l a σ h).bind (boolV fun b h => .ok (.bl (!b)) h) := by
  conv => lhs; unfold evE
  try rfl
@[simp] theorem evE_and {a : _} {b : _} : evE l (E.and a b) σ h =
    (evE l a σ h).bind (boolV fun x h => if x = true then evE l b σ h else .ok (.bl false) h) := by
  conv => lhs; unfold evE
  try rfl
@[simp] theorem evE_or {a : _} {b : _} : evE l (E.or a b) σ h =
    (evE l a σ h).bind (boolV fun x h => if x = true then .ok (.bl true) h else evE l b σ h) := by
  conv => lhs; unfold evE
  try rfl
@[simp] theorem evE_cmp {o : _} {a : _} {b : _} : evE l (E.cmp o a b) σ h =
    (evE l a σ h).bind fun x h => (evE l b σ h).bind fun y h => cop o h x y := by
  conv => lhs; unfold evE
  try rfl
@[simp] theorem evE_chain {o : _} {p : _} {a : _} {b : _} {c : _} : evE l (E.chain o p a b c) σ h =
    (evE l a σ h).bind fun x h => (evE l b σ h).bind fun y h => (cop o h x y).bind (boolV fun k h =>
      if k = true then (evE l c σ h).bind fun z h => cop p h y z else .ok (.bl false) h) := by
  conv => lhs; unfold evE
  try rfl
@[simp] theorem evE_isN {a : _} : evE l (E.isN a) σ h =
    (evE l a σ h).bind fun x h => .ok (.bl (isNon x)) h := by
  conv => lhs; unfold evE
  try rfl
@[simp] theorem evE_notN {a : _} : evE l (E.notN a) σ h =
    (evE l a σ h).bind fun x h => .ok (.bl (!isNon x)) h := by
  conv => lhs; unfold evE
  try rfl
@[simp] theorem evE_isB {a : _} {b : _} : evE l (E.isB a b) σ h =
    (evE l a σ h).bind fun x h => isBV b h x := by
  conv => lhs; unfold evE
  try rfl
@[simp] theorem evE_notB {a : _} {b : _} : evE l (E.notB a b) σ h =
    (evE l a σ h).bind fun x h => notBV b h x := by
  conv => lhs; unfold evE
  try rfl
@[simp] theorem evE_ite {c : _} {a : _} {b : _} : evE l (E.ite c a b) σ h =
    (evE l c σ h).bind (boolV fun k h => if k = true then evE l a σ h else evE l b σ h) := by
  conv => lhs; unfold evE
  try rfl
@[simp] theorem evE_tup {es : _} : evE l (E.tup es) σ h =
    (evL l es σ h).bind fun ds h => if ds.length ≤ sizeLine then .ok (.tup ds) h else .bad := by
  conv => lhs; unfold evE
  try rfl
@[simp] theorem evE_lst {es : _} : evE l (E.lst es) σ h =
    (evL l es σ h).bind fun ds h => if ds.length ≤ sizeLine then .ok (.lst ds) h else .bad := by
  conv => lhs; unfold evE
  try rfl
@[simp] theorem evE_ix {a : _} {b : _} : evE l (E.ix a b) σ h =
    (evE l a σ h).bind fun x h => (evE l b σ h).bind fun y h => ixV h x y := by
  conv => lhs; unfold evE
  try rfl
@[simp] theorem evE_sl {a : _} {lo : _} {hi : _} : evE l (E.sl a lo hi) σ h =
    (evE l a σ h).bind fun x h => (evE l lo σ h).bind (optV (isNo lo) fun i h => (evE l hi σ h).bind (optV (isNo hi) fun j h => slV h x i j)) := by
  conv => lhs; unfold evE
  try rfl
@[simp] theorem evE_rev {a : _} : evE l (E.rev a) σ h =
    (evE l a σ h).bind fun x h => revV h x := by
  conv => lhs; unfold evE
  try rfl
@[simp] theorem evE_call {u1 : _} {f : _} {es : _} : evE l (E.call u1 f es) σ h =
    (evL l es σ h).bind fun ds h => callF l f ds h := by
  conv => lhs; unfold evE
  try rfl
@[simp] theorem evE_blt {b : _} {es : _} : evE l (E.blt b es) σ h =
    (evL l es σ h).bind fun ds h => blt b h ds := by
  conv => lhs; unfold evE
  try rfl
@[simp] theorem evE_isin {a : _} {ts : _} : evE l (E.isin a ts) σ h =
    (evE l a σ h).bind fun x h => isinV ts h x := by
  conv => lhs; unfold evE
  try rfl
@[simp] theorem evE_comp {e : _} {tg : _} {src : _} {c : _} : evE l (E.comp e tg src c) σ h =
    (evI l src σ h).bind fun xw h => (compE l e tg c xw.2 xw.1 σ h).noEx.bind fun ds h => if ds.length < sizeLine then .ok (.lst ds) h else .bad := by
  conv => lhs; unfold evE
  try rfl
@[simp] theorem evE_alloc {e : _} : evE l (E.alloc e) σ h =
    (evE l e σ h).bind fun x h => allocV h x := by
  conv => lhs; unfold evE
  try rfl
@[simp] theorem evE_fld {a : _} {f : _} : evE l (E.fld a f) σ h =
    (evE l a σ h).bind fun x h => fldV f h x := by
  conv => lhs; unfold evE
  try rfl
@[simp] theorem evE_meth {c : _} {u1 : _} {f : _} {a : _} {es : _} : evE l (E.meth c u1 f a es) σ h =
    (evE l a σ h).bind fun x h => insV c h ((evL l es σ h).bind fun ds h => callF l f (x :: ds) h) x := by
  conv => lhs; unfold evE
  try rfl
@[simp] theorem evE_make {c : _} {f : _} {es : _} : evE l (E.make c f es) σ h =
    (evL l es σ h).bind fun ds h => (callF l f (.ref h.length :: ds) (h ++ [.ins c []])).bind (madeV h.length) := by
  conv => lhs; unfold evE
  try rfl
@[simp] theorem evE_bm {m : _} {a : _} {es : _} : evE l (E.bm m a es) σ h =
    (evE l a σ h).bind fun x h => if recv (bmTy m) h x = true then (evL l es σ h).bind fun ds h => bm m l h x ds else .bad := by
  conv => lhs; unfold evE
  try rfl
@[simp] theorem evL_nil  : evL l (EL.nil) σ h =
    .ok [] h := by
  conv => lhs; unfold evL
  try rfl
@[simp] theorem evL_cons {e : _} {es : _} : evL l (EL.cons e es) σ h =
    (evE l e σ h).bind fun x h => (evL l es σ h).bind fun xs h => .ok (x :: xs) h := by
  conv => lhs; unfold evL
  try rfl
@[simp] theorem evI_seq {a : _} : evI l (It.seq a) σ h =
    (evE l a σ h).bind fun x h => someV h (srcOf h x) := by
  conv => lhs; unfold evI
  try rfl
@[simp] theorem evI_rg1 {a : _} : evI l (It.rg1 a) σ h =
    (evE l a σ h).bind fun x h => rgV (.int 0) x h := by
  conv => lhs; unfold evI
  try rfl
@[simp] theorem evI_rg2 {a : _} {b : _} : evI l (It.rg2 a b) σ h =
    (evE l a σ h).bind fun x h => (evE l b σ h).bind fun y h => rgV x y h := by
  conv => lhs; unfold evI
  try rfl
@[simp] theorem evI_enum {a : _} : evI l (It.enum a) σ h =
    (evE l a σ h).bind fun x h => (someV h (srcOf h x)).bind fun xw h => .ok (enumD xw.1, xw.2) h := by
  conv => lhs; unfold evI
  try rfl
@[simp] theorem evI_zip {a : _} {b : _} : evI l (It.zip a b) σ h =
    (evE l a σ h).bind fun x h => (evE l b σ h).bind fun y h => (someV h (srcOf h x)).bind fun xw h => (someV h (srcOf h y)).bind fun yw h => .ok (zipD xw.1 yw.1, xw.2 ++ yw.2) h := by
  conv => lhs; unfold evI
  try rfl
@[simp] theorem exS_ex {e : _} : exS l (S.ex e) σ h =
    stE σ (evE l e σ h) fun _ h => .ok (.nx σ) h := by
  conv => lhs; unfold exS
  try rfl
@[simp] theorem exS_set {i : _} {e : _} : exS l (S.set i e) σ h =
    stE σ (evE l e σ h) fun x h => .ok (.nx (σ.set i (some x))) h := by
  conv => lhs; unfold exS
  try rfl
@[simp] theorem exS_unp {is : _} {e : _} : exS l (S.unp is e) σ h =
    stE σ (evE l e σ h) fun x h => stE σ (unpV is σ h x) fun σ' h => .ok (.nx σ') h := by
  conv => lhs; unfold exS
  try rfl
@[simp] theorem exS_par {i : _} {j : _} {es : _} : exS l (S.par i j es) σ h =
    stE σ (evL l es σ h) fun ds h => parV i j σ h ds := by
  conv => lhs; unfold exS
  try rfl
@[simp] theorem exS_ixSet {o : _} {i : _} {v : _} : exS l (S.ixSet o i v) σ h =
    stE σ (evE l v σ h) fun z h => stE σ (evE l o σ h) fun x h => stE σ (evE l i σ h) fun y h => stE σ (setItem l h x y z) fun _ h => .ok (.nx σ) h := by
  conv => lhs; unfold exS
  try rfl
@[simp] theorem exS_fldSet {o : _} {f : _} {v : _} : exS l (S.fldSet o f v) σ h =
    stE σ (evE l v σ h) fun z h => stE σ (evE l o σ h) fun x h => stE σ (setFld l h x f z) fun _ h => .ok (.nx σ) h := by
  conv => lhs; unfold exS
  try rfl
@[simp] theorem exS_ret {e : _} : exS l (S.ret e) σ h =
    stE σ (evE l e σ h) fun x h => .ok (.rt x) h := by
  conv => lhs; unfold exS
  try rfl
@[simp] theorem exS_ite {c : _} {a : _} {b : _} : exS l (S.ite c a b) σ h =
    stE σ (evE l c σ h) (boolV fun k h => if k = true then exL l a σ h else exL l b σ h) := by
  conv => lhs; unfold exS
  try rfl
@[simp] theorem exS_for {tg : _} {src : _} {body : _} {kill : _} : exS l (S.for_ tg src body kill) σ h =
    stE σ (evI l src σ h) fun xw h => forE l tg body kill xw.2 xw.1 (killAll σ kill) h := by
  conv => lhs; unfold exS
  try rfl
@[simp] theorem exS_while {c : _} {body : _} {kill : _} : exS l (S.while_ c body kill) σ h =
    whileE l c body kill (killAll σ kill) h := by
  conv => lhs; unfold exS
  try rfl
@[simp] theorem exS_raise {c : _} {es : _} : exS l (S.raise c es) σ h =
    stE σ (evL l es σ h) fun ds h => .ok (.xc c ds σ) h := by
  conv => lhs; unfold exS
  try rfl
@[simp] theorem exS_try {body : _} {c : _} {i : _} {suite : _} : exS l (S.try_ body c i suite) σ h =
    match exL l body σ h with
    | .ok (.xc c' fs σ') h' => if excSub c' c then (exL l suite (match i with | some i => σ'.set i (some (.exc c' fs)) | none => σ') h').bind (killV (match i with | some i => [i] | none => []))
      else .ok (.xc c' fs σ') h'
    | r => r := by
  conv => lhs; unfold exS
  try rfl
@[simp] theorem exS_pass  : exS l (S.pass) σ h =
    .ok (.nx σ) h := by
  conv => lhs; unfold exS
  try rfl
@[simp] theorem exS_kill {is : _} : exS l (S.kill is) σ h =
    .ok (.nx (killAll σ is)) h := by
  conv => lhs; unfold exS
  try rfl
@[simp] theorem exL_nil  : exL l (SL.nil) σ h =
    .ok (.nx σ) h := by
  conv => lhs; unfold exL
  try rfl
@[simp] theorem exL_cons {s : _} {ss : _} : exL l (SL.cons s ss) σ h =
    (exS l s σ h).bind (seqFl fun σ' h' => exL l ss σ' h') := by
  conv => lhs; unfold exL
  try rfl
@[simp] theorem callF_mk {ds : List D} {np : _} {ns : _} {keep : _} {body : _} : callF l (Fn.mk np ns keep body) ds h =
    if ds.length = np ∧ np ≤ ns then
      endF keep h.length (exL (if keep then l else h.length :: l) body (ds.map some ++ List.replicate (ns - np) none) h)
    else .bad := by
  conv => lhs; unfold callF
  try rfl
end
end Mp

set_option maxRecDepth 100000
/-! Mq1: words for reckoning with terms; the tape. -/
namespace Mp
open PySem

/-! ### operators, by kinds -/
theorem bop_add (h : Hh) (i j : Int) : bop .add h (.int i) (.int j) = .ok (.int (i + j)) h := rfl
theorem bop_sub (h : Hh) (i j : Int) : bop .sub h (.int i) (.int j) = .ok (.int (i - j)) h := rfl
theorem bop_mod (h : Hh) {i j : Int} (n : j ≠ 0) : bop .mod h (.int i) (.int j) = .ok (.int (i.fmod j)) h := by
  show (if j = 0 then R.bad else R.ok (D.int (i.fmod j)) h) = _
  rw [if_neg n]
theorem bop_mul (h : Hh) {i j : Int} (a : small i = true) (b : small j = true) : bop .mul h (.int i) (.int j) = .ok (.int (i * j)) h := by
  show (if (small i && small j) = true then R.ok (D.int (i * j)) h else .bad) = _
  rw [a, b]; rfl
theorem bop_fdiv (h : Hh) {i j : Int} (n : j ≠ 0) (b : small j = true) : bop .fdiv h (.int i) (.int j) = .ok (.int (i.fdiv j)) h := by
  show (if j = 0 ∨ small j = false then R.bad else R.ok (D.int (i.fdiv j)) h) = _
  rw [if_neg (by simp [n, b])]
theorem eqv_int (i j : Int) : PyData.eqv (.int i) (.int j) = (i == j) := by simp [PyData.eqv]
theorem shaped_int (i : Int) : SeqAt.shaped (.int i) = true := by simp [SeqAt.shaped, PyData.canLay0, PyData.depth]
theorem eqv_bl (i j : Bool) : PyData.eqv (.bool i) (.bool j) = (i == j) := by cases i <;> cases j <;> simp [PyData.eqv]
theorem shaped_bl (i : Bool) : SeqAt.shaped (.bool i) = true := by simp [SeqAt.shaped, PyData.canLay0, PyData.depth]
theorem cop_eq (h : Hh) (i j : Int) : cop .eq h (.int i) (.int j) = .ok (.bl (i == j)) h := by simp [cop, D.py, eqv_int, shaped_int]
theorem cop_ne (h : Hh) (i j : Int) : cop .ne h (.int i) (.int j) = .ok (.bl (!(i == j))) h := by simp [cop, D.py, eqv_int, shaped_int]
theorem cop_eqb (h : Hh) (i j : Bool) : cop .eq h (.bl i) (.bl j) = .ok (.bl (i == j)) h := by simp [cop, D.py, eqv_bl, shaped_bl]
theorem cop_neb (h : Hh) (i j : Bool) : cop .ne h (.bl i) (.bl j) = .ok (.bl (!(i == j))) h := by simp [cop, D.py, eqv_bl, shaped_bl]
theorem cop_lt (h : Hh) (i j : Int) : cop .lt h (.int i) (.int j) = .ok (.bl (decide (i < j))) h := rfl
theorem cop_le (h : Hh) (i j : Int) : cop .le h (.int i) (.int j) = .ok (.bl (decide (i ≤ j))) h := rfl
theorem cop_gt (h : Hh) (i j : Int) : cop .gt h (.int i) (.int j) = .ok (.bl (decide (j < i))) h := rfl
theorem cop_ge (h : Hh) (i j : Int) : cop .ge h (.int i) (.int j) = .ok (.bl (decide (j ≤ i))) h := rfl
theorem blt_abs (h : Hh) (i : Int) : blt .abs h [.int i] = .ok (.int (if i < 0 then -i else i)) h := rfl
theorem blt_lenL (h : Hh) (ds : List D) : blt .len h [.lst ds] = .ok (.int ds.length) h := rfl
theorem blt_lenT (h : Hh) (ds : List D) : blt .len h [.tup ds] = .ok (.int ds.length) h := rfl
theorem sm_of {i : Int} (h : i.natAbs < 2 ^ 9000) : small i = true := decide_eq_true h
theorem sm_lt {i : Int} (h0 : -(2 ^ 64) < i) (h1 : i < 2 ^ 64) : small i = true := by
  refine sm_of (Nat.lt_of_lt_of_le (m := 2 ^ 64) (by omega) (Nat.pow_le_pow_right (by decide) (by decide)))
theorem getL_of {h : Hh} {n : Nat} {ds : List D} (e : getL h n = some ds) : n < h.length := by
  unfold getL at e
  split at e
  · rename_i q; exact (List.getElem?_eq_some_iff.mp q).1
  · cases e
theorem getL_set {h : Hh} {n : Nat} {ds : List D} (hn : n < h.length) : getL (h.set n (.lst ds)) n = some ds := by unfold getL; rw [List.getElem?_set_self hn]
theorem getL_set_ne {h : Hh} {n m : Nat} {o : Ob} (hn : n ≠ m) : getL (h.set n o) m = getL h m := by unfold getL; rw [List.getElem?_set_ne hn]
theorem stOk_int {l : List Nat} {n : Nat} {i : Int} : stOk l n (.int i) = true := by simp [stOk, D.und]
theorem stOk_bl {l : List Nat} {n : Nat} {i : Bool} : stOk l n (.bl i) = true := by simp [stOk, D.und]
theorem setItem_int {l : List Nat} {h : Hh} {n : Nat} {ds : List D} {k : Int} {j : Nat} {i : Int} (g : getL h n = some ds) (e : ixAt ds.length k = some j) : setItem l h (.ref n) (.int k) (.int i) = .ok () (h.set n (.lst (ds.set j (.int i)))) := by
  simp [setItem, g, e, stOk_int]
theorem set_len {h : Hh} {n : Nat} {o : Ob} : (h.set n o).length = h.length := List.length_set
/-- a place in an object of ours -/
theorem ixV_ref {h : Hh} {n : Nat} {ds : List D} {i : Int} {d : D} (g : getL h n = some ds) (e : atD ds i = some d) : ixV h (.ref n) (.int i) = .ok d h := by
  simp [ixV, seqOf, listOf, lstOf, g, e]
theorem ixV_lst {h : Hh} {ds : List D} {i : Int} {d : D} (e : atD ds i = some d) : ixV h (.lst ds) (.int i) = .ok d h := by
  simp [ixV, seqOf, listOf, lstOf, e]
theorem ixV_tup {h : Hh} {ds : List D} {i : Int} {d : D} (e : atD ds i = some d) : ixV h (.tup ds) (.int i) = .ok d h := by
  simp [ixV, seqOf, e]
theorem atD_nat {α : Type} {xs : List α} {i : Nat} (h : i < xs.length) : atD xs (i : Int) = some xs[i] := by
  unfold atD ixAt
  rw [if_pos (by omega), if_pos (by omega)]
  simp [h]
theorem fin_int {b : Nat} {h : Hh} {i : Int} (e : h.length = b) : fin false b (.int i) h = .ok (.int i) h := by
  subst e
  simp [fin, D.und]
theorem fin_bl {b : Nat} {h : Hh} {i : Bool} (e : h.length = b) : fin false b (.bl i) h = .ok (.bl i) h := by
  subst e
  simp [fin, D.und]

theorem set_self {h : Hh} {n : Nat} {ds : List D} (g : getL h n = some ds) : h.set n (.lst ds) = h := by
  refine List.ext_getElem? fun j => ?_
  rw [List.getElem?_set]
  by_cases e : n = j
  · subst e
    have hn := getL_of g
    unfold getL at g
    split at g
    · rename_i q; cases g; rw [if_pos rfl, if_pos hn]; exact q.symm
    · cases g
  · rw [if_neg e]
@[simp] theorem srcOf_lst {h : Hh} {ds : List D} : srcOf h (.lst ds) = some (ds, []) := rfl
@[simp] theorem srcOf_tup {h : Hh} {ds : List D} : srcOf h (.tup ds) = some (ds, []) := rfl
/-! ### loops, turn by turn -/
theorem while_step {c : Sg → Hh → R D} {b : Sg → Hh → R Fl} {σ σ' : Sg} {h h1 h2 : Hh} (hc : c σ h = .ok (.bl true) h1) (hb : b σ h1 = .ok (.nx σ') h2) : whileL c b σ h = whileL c b σ' h2 := by
  rw [whileL_eq, hc]
  simp only
  rw [hb]
theorem while_stop {c : Sg → Hh → R D} {b : Sg → Hh → R Fl} {σ : Sg} {h h1 : Hh} (hc : c σ h = .ok (.bl false) h1) : whileL c b σ h = .ok (.nx σ) h1 := by
  rw [whileL_eq, hc]
theorem watch_nil {h : Hh} : watch [] h := by intro p hp; cases hp
theorem for_nil {f : D → Sg → Hh → R Fl} {σ : Sg} {h : Hh} : forL [] f [] σ h = .ok (.nx σ) h := by simp [forL, ifW, watch_nil]
theorem for_cons {f : D → Sg → Hh → R Fl} {d : D} {ds : List D} {σ σ' : Sg} {h h' : Hh} (e : f d σ h = .ok (.nx σ') h') : forL [] f (d :: ds) σ h = forL [] f ds σ' h' := by simp [forL, ifW, watch_nil, e]
theorem whileE_step {l kill : List Nat} {c : E} {b : SL} {σ σ' : Sg} {h h1 h2 : Hh} (hc : evE l c σ h = .ok (.bl true) h1) (hb : (exL l b σ h1).bind (killV kill) = .ok (.nx σ') h2) : whileE l c b kill σ h = whileE l c b kill σ' h2 := while_step hc hb
theorem whileE_stop {l kill : List Nat} {c : E} {b : SL} {σ : Sg} {h h1 : Hh} (hc : evE l c σ h = .ok (.bl false) h1) : whileE l c b kill σ h = .ok (.nx σ) h1 := while_stop hc
/-- a for over what isn't watched, by what holds between its turns -/
theorem for_all {f : D → Sg → Hh → R Fl} (Pv : List D → Sg → Hh → Prop) : ∀ (ds : List D) (σ : Sg) (h : Hh), Pv ds σ h → (∀ d ds σ h, Pv (d :: ds) σ h → ∃ σ' h', f d σ h = .ok (.nx σ') h' ∧ Pv ds σ' h') → ∃ σ' h', forL [] f ds σ h = .ok (.nx σ') h' ∧ Pv [] σ' h'
  | [], σ, h, p, _ => ⟨σ, h, for_nil, p⟩
  | d :: ds, σ, h, p, k => by
    obtain ⟨σ1, h1, e, p1⟩ := k d ds σ h p
    obtain ⟨σ2, h2, e2, p2⟩ := for_all Pv ds σ1 h1 p1 k
    exact ⟨σ2, h2, by rw [for_cons e, e2], p2⟩

/-! ### the tape -/
def tapeD (xs : List Int) (s : Nat) (f : Int) (p : Nat) : List D := [.lst (xs.map .int), .int s, .int f, .int p]
/-- the tape lies at n, at most k draws made -/
def IsTape (h : Hh) (n k : Nat) : Prop := ∃ xs s f p, getL h n = some (tapeD xs s f p) ∧ 0 ≤ f ∧ s ≤ k
theorem IsTape.lt {h : Hh} {n k : Nat} (t : IsTape h n k) : n < h.length := by
  obtain ⟨xs, s, f, p, g, _⟩ := t
  exact getL_of g
theorem IsTape.mono {h : Hh} {n k j : Nat} (t : IsTape h n k) (hj : k ≤ j) : IsTape h n j := by
  obtain ⟨xs, s, f, p, g, hf, hs⟩ := t
  exact ⟨xs, s, f, p, g, hf, Nat.le_trans hs hj⟩
noncomputable def F_law_draw_b1 : SL :=
  (.cons (.ite (.cmp .ge (.blt .abs (.cons (.ix (.var 2) (.ix (.var 0) (.cst (.int 3)))) .nil)) (.bop .pow (.cst (.int 10)) (.cst (.int 18))))
 (.cons (.ixSet (.var 0) (.cst (.int 2)) (.blt .abs (.cons (.ix (.var 2) (.ix (.var 0) (.cst (.int 3)))) .nil)))
  .nil)
 .nil)
  (.cons (.ixSet (.var 0) (.cst (.int 3)) (.bop .add (.ix (.var 0) (.cst (.int 3))) (.cst (.int 1))))
  .nil))
noncomputable def F_law_draw : Fn := .mk 2 7 false
  (.cons (.set 2 (.ix (.var 0) (.cst (.int 0))))
  (.cons (.set 3 (.ix (.var 0) (.cst (.int 1))))
  (.cons (.ixSet (.var 0) (.cst (.int 1)) (.bop .add (.var 3) (.cst (.int 1))))
  (.cons (.while_ (.and (.cmp .eq (.ix (.var 0) (.cst (.int 2))) (.cst (.int 0))) (.cmp .lt (.ix (.var 0) (.cst (.int 3))) (.blt .len (.cons (.var 2) .nil)))) F_law_draw_b1 [])
  (.cons (.ite (.cmp .gt (.ix (.var 0) (.cst (.int 2))) (.cst (.int 0)))
 (.cons (.set 6 (.ix (.var 0) (.cst (.int 2))))
  (.cons (.ixSet (.var 0) (.cst (.int 2)) (.bop .fdiv (.var 6) (.var 1)))
  (.cons (.ret (.bop .mod (.var 6) (.var 1)))
  .nil)))
 .nil)
  (.cons (.set 4 (.cst (.int 0)))
  (.cons (.ite (.cmp .gt (.blt .len (.cons (.var 2) .nil)) (.cst (.int 0)))
 (.cons (.set 4 (.ix (.var 2) (.bop .mod (.var 3) (.blt .len (.cons (.var 2) .nil)))))
  .nil)
 .nil)
  (.cons (.set 5 (.bop .mod (.bop .mul (.bop .add (.bop .mod (.var 4) (.cst (.int 1000003))) (.cst (.int 1))) (.bop .add (.bop .add (.bop .mul (.bop .mod (.var 3) (.cst (.int 997))) (.cst (.int 7919))) (.cst (.int 104729))) (.var 3))) (.cst (.int 1000033))))
  (.cons (.set 5 (.bop .mod (.bop .add (.bop .add (.bop .mul (.var 5) (.var 5)) (.bop .mul (.cst (.int 3)) (.var 5))) (.var 3)) (.cst (.int 999983))))
  (.cons (.ret (.bop .mod (.bop .mod (.bop .mul (.var 5) (.cst (.int 48271))) (.cst (.int 65537))) (.var 1)))
  .nil))))))))))
section
variable {l : List Nat} {h : Hh} {n : Nat}
theorem at0 {a b c d : D} : atD [a, b, c, d] 0 = some a := rfl
theorem at1 {a b c d : D} : atD [a, b, c, d] 1 = some b := rfl
theorem at2 {a b c d : D} : atD [a, b, c, d] 2 = some c := rfl
theorem at3 {a b c d : D} : atD [a, b, c, d] 3 = some d := rfl
theorem draw_loop (xs : List Int) (s : Nat) (M : Int) (τ : List (Option D)) : ∀ (k p : Nat) (f : Int) (h : Hh), xs.length - p = k → 0 ≤ f → getL h n = some (tapeD xs s f p) →
    ∃ f' p', 0 ≤ f' ∧ whileE l (.and (.cmp .eq (.ix (.var 0) (.cst (.int 2))) (.cst (.int 0))) (.cmp .lt (.ix (.var 0) (.cst (.int 3))) (.blt .len (.cons (.var 2) .nil)))) F_law_draw_b1 []
      (some (.ref n) :: some (.int M) :: some (.lst (xs.map .int)) :: τ) h = .ok (.nx (some (.ref n) :: some (.int M) :: some (.lst (xs.map .int)) :: τ)) (h.set n (.lst (tapeD xs s f' p'))) := by
  intro k
  induction k with
  | zero =>
    intro p f h hk hf g
    refine ⟨f, p, hf, ?_⟩
    rw [set_self g]
    have lt : decide ((p : Int) < (xs.length : Int)) = false := decide_eq_false (by omega)
    refine whileE_stop ?_
    by_cases f0 : f = 0
    · simp [ixV_ref g, tapeD, at2, at3, cop_eq, cop_lt, f0, blt_lenL, lt]
      omega
    · have : (f == 0) = false := by simpa using f0
      simp [ixV_ref g, tapeD, at2, cop_eq, this]
  | succ k ih =>
    intro p f h hk hf g
    have hn := getL_of g
    by_cases f0 : f = 0
    · have hp : p < xs.length := by omega
      have ax : atD (xs.map D.int) (p : Int) = some (.int xs[p]) := by rw [atD_nat (by simpa using hp)]; simp
      have step : ∃ f1, 0 ≤ f1 ∧ (exL l F_law_draw_b1 (some (.ref n) :: some (.int M) :: some (.lst (xs.map .int)) :: τ) h).bind (killV []) = .ok (.nx (some (.ref n) :: some (.int M) :: some (.lst (xs.map .int)) :: τ)) (h.set n (.lst (tapeD xs s f1 (p + 1)))) := by
        have p10 : bop .pow h (.int 10) (.int 18) = .ok (.int 1000000000000000000) h := by simp [bop]
        have g3 : ixV h (.ref n) (.int 3) = .ok (.int p) h := ixV_ref g rfl
        have ab : blt .abs h [.int xs[p]] = .ok (.int (if xs[p] < 0 then -xs[p] else xs[p])) h := rfl
        obtain ⟨a, ea⟩ : ∃ a, a = (if xs[p] < 0 then -xs[p] else xs[p]) := ⟨_, rfl⟩
        rw [← ea] at ab
        by_cases big : 1000000000000000000 ≤ a
        · refine ⟨a, by omega, ?_⟩
          have g' : getL (h.set n (.lst (tapeD xs s a p))) n = some (tapeD xs s a p) := getL_set hn
          have si : setItem l h (.ref n) (.int 2) (.int a) = .ok () (h.set n (.lst (tapeD xs s a p))) := setItem_int g (j := 2) rfl
          have g3' : ixV (h.set n (.lst (tapeD xs s a p))) (.ref n) (.int 3) = .ok (.int p) _ := ixV_ref g' rfl
          have si' : setItem l (h.set n (.lst (tapeD xs s a p))) (.ref n) (.int 3) (.int (p + 1)) = .ok () (h.set n (.lst (tapeD xs s a (p + 1)))) := by rw [setItem_int g' (j := 3) rfl, List.set_set]; rfl
          simp [F_law_draw_b1, g3, ixV_lst ax, ab, p10, cop_ge, big, si, g3', bop_add, si']
        · refine ⟨f, hf, ?_⟩
          have si' : setItem l h (.ref n) (.int 3) (.int (p + 1)) = .ok () (h.set n (.lst (tapeD xs s f (p + 1)))) := setItem_int g (j := 3) rfl
          simp [F_law_draw_b1, g3, ixV_lst ax, ab, p10, cop_ge, big, bop_add, si']
      obtain ⟨f1, hf1, e1⟩ := step
      have ec : evE l (.and (.cmp .eq (.ix (.var 0) (.cst (.int 2))) (.cst (.int 0))) (.cmp .lt (.ix (.var 0) (.cst (.int 3))) (.blt .len (.cons (.var 2) .nil)))) (some (.ref n) :: some (.int M) :: some (.lst (xs.map .int)) :: τ) h = .ok (.bl true) h := by
        have lt : decide ((p : Int) < (xs.length : Int)) = true := decide_eq_true (by omega)
        simp [ixV_ref g, tapeD, at2, at3, cop_eq, cop_lt, f0, blt_lenL, lt]
        omega
      obtain ⟨f2, p2, hf2, e2⟩ := ih (p + 1) f1 _ (by omega) hf1 (getL_set hn)
      exact ⟨f2, p2, hf2, by rw [whileE_step ec e1, e2, List.set_set]⟩
    · refine ⟨f, p, hf, ?_⟩
      rw [set_self g]
      refine whileE_stop ?_
      have : (f == 0) = false := by simpa using f0
      simp [ixV_ref g, tapeD, at2, cop_eq, this]
theorem fmodB {i j : Int} (hj : 0 < j) : 0 ≤ i.fmod j ∧ i.fmod j < j := ⟨Int.fmod_nonneg_of_pos _ hj, Int.fmod_lt_of_pos _ hj⟩
theorem draw_ok {k : Nat} (t : IsTape h n k) (hk : k < 2 ^ 40) {m : Int} (h0 : 0 < m) (h1 : m < 2 ^ 64) : ∃ v ds, 0 ≤ v ∧ v < m ∧ callF l F_law_draw [.ref n, .int m] h = .ok (.int v) (h.set n (.lst ds)) ∧ IsTape (h.set n (.lst ds)) n (k + 1) := by
  obtain ⟨xs, s, f, p, g, hf, hsk⟩ := t
  have hn := getL_of g
  have g0 : ixV h (.ref n) (.int 0) = .ok (.lst (xs.map .int)) h := ixV_ref g rfl
  have g1 : ixV h (.ref n) (.int 1) = .ok (.int s) h := ixV_ref g rfl
  have si : setItem (h.length :: l) h (.ref n) (.int 1) (.int (s + 1)) = .ok () (h.set n (.lst (tapeD xs (s + 1) f p))) := setItem_int g (j := 1) rfl
  have g' : getL (h.set n (.lst (tapeD xs (s + 1) f p))) n = some (tapeD xs (s + 1) f p) := getL_set hn
  obtain ⟨f', p', hf', el⟩ := draw_loop (l := h.length :: l) (n := n) xs (s + 1) m [some (.int s), none, none, none] _ p f _ rfl hf g'
  rw [List.set_set] at el
  have g2 : getL (h.set n (.lst (tapeD xs (s + 1) f' p'))) n = some (tapeD xs (s + 1) f' p') := getL_set hn
  have r2 : ixV (h.set n (.lst (tapeD xs (s + 1) f' p'))) (.ref n) (.int 2) = .ok (.int f') _ := ixV_ref g2 rfl
  have m0 : m ≠ 0 := by omega
  have sm : small m = true := sm_lt (by omega) h1
  by_cases fp : 0 < f'
  · have si2 : ∀ i, setItem (h.length :: l) (h.set n (.lst (tapeD xs (s + 1) f' p'))) (.ref n) (.int 2) (.int i) = .ok () (h.set n (.lst (tapeD xs (s + 1) i p'))) := fun i => by rw [setItem_int g2 (j := 2) rfl, List.set_set]; rfl
    refine ⟨f'.fmod m, tapeD xs (s + 1) (f'.fdiv m) p', (fmodB h0).1, (fmodB h0).2, ?_, xs, s + 1, f'.fdiv m, p', getL_set hn, ?_, by omega⟩
    · simp [F_law_draw, g0, g1, bop_add, si, el, r2, cop_gt, fp, bop_fdiv _ m0 sm, bop_mod _ m0, si2]
      rw [fin_int set_len]
    · rw [Int.fdiv_eq_ediv_of_nonneg _ (by omega)]
      exact Int.ediv_nonneg (by omega) (by omega)
  · -- the script's cell, mixed
    suffices ∃ V : Int, callF l F_law_draw [.ref n, .int m] h = .ok (.int (V.fmod m)) (h.set n (.lst (tapeD xs (s + 1) f' p'))) by
      obtain ⟨V, e⟩ := this
      exact ⟨_, _, (fmodB h0).1, (fmodB h0).2, e, xs, s + 1, f', p', getL_set hn, hf', by omega⟩
    have mx : ∀ (c : Int) (hh : Hh), bop .mul hh (.int (c.fmod 1000003 + 1)) (.int ((s : Int).fmod 997 * 7919 + 104729 + s)) = .ok (.int ((c.fmod 1000003 + 1) * ((s : Int).fmod 997 * 7919 + 104729 + s))) hh := fun c hh => by
      have a := fmodB (i := c) (j := 1000003) (by decide)
      have b := fmodB (i := (s : Int)) (j := 997) (by decide)
      exact bop_mul _ (sm_lt (by omega) (by omega)) (sm_lt (by omega) (by omega))
    have e1 : ∀ hh, bop .mul hh (.int ((s : Int).fmod 997)) (.int 7919) = .ok (.int ((s : Int).fmod 997 * 7919)) hh := fun hh => by
      have b := fmodB (i := (s : Int)) (j := 997) (by decide)
      exact bop_mul _ (sm_lt (by omega) (by omega)) (sm_lt (by omega) (by omega))
    have sq : ∀ (w : Int) hh, bop .mul hh (.int (w.fmod 1000033)) (.int (w.fmod 1000033)) = .ok (.int (w.fmod 1000033 * w.fmod 1000033)) hh := fun w hh => by
      have b := fmodB (i := w) (j := 1000033) (by decide)
      exact bop_mul _ (sm_lt (by omega) (by omega)) (sm_lt (by omega) (by omega))
    have th : ∀ (w : Int) hh, bop .mul hh (.int 3) (.int (w.fmod 1000033)) = .ok (.int (3 * w.fmod 1000033)) hh := fun w hh => by
      have b := fmodB (i := w) (j := 1000033) (by decide)
      exact bop_mul _ (sm_lt (by omega) (by omega)) (sm_lt (by omega) (by omega))
    have la : ∀ (w : Int) hh, bop .mul hh (.int (w.fmod 999983)) (.int 48271) = .ok (.int (w.fmod 999983 * 48271)) hh := fun w hh => by
      have b := fmodB (i := w) (j := 999983) (by decide)
      exact bop_mul _ (sm_lt (by omega) (by omega)) (sm_lt (by omega) (by omega))
    have md1 : ∀ (i : Int) hh, bop .mod hh (.int i) (.int 1000003) = .ok (.int (i.fmod 1000003)) hh := fun i hh => bop_mod _ (by decide)
    have md2 : ∀ (i : Int) hh, bop .mod hh (.int i) (.int 997) = .ok (.int (i.fmod 997)) hh := fun i hh => bop_mod _ (by decide)
    have md3 : ∀ (i : Int) hh, bop .mod hh (.int i) (.int 1000033) = .ok (.int (i.fmod 1000033)) hh := fun i hh => bop_mod _ (by decide)
    have md4 : ∀ (i : Int) hh, bop .mod hh (.int i) (.int 999983) = .ok (.int (i.fmod 999983)) hh := fun i hh => bop_mod _ (by decide)
    have md5 : ∀ (i : Int) hh, bop .mod hh (.int i) (.int 65537) = .ok (.int (i.fmod 65537)) hh := fun i hh => bop_mod _ (by decide)
    have md6 : ∀ (i : Int) hh, bop .mod hh (.int i) (.int m) = .ok (.int (i.fmod m)) hh := fun i hh => bop_mod _ m0
    cases xs with
    | nil =>
      refine ⟨?_, ?_⟩
      rotate_left
      · simp only [List.map_nil] at g0 el
        have mx0 := fun hh => mx 0 hh
        simp only [Int.zero_fmod, Int.zero_add] at mx0
        simp [F_law_draw, g0, g1, bop_add, si, el, r2, cop_gt, fp, blt_lenL, md1, md2, md3, md4, md5, md6, e1, sq, th, la, mx0]
        rw [fin_int set_len]
    | cons x xs =>
      have lp : (0 : Int) < (xs.length : Int) + 1 := by omega
      have bd := fmodB (i := (s : Int)) lp
      obtain ⟨c, ec⟩ : ∃ c, atD ((x :: xs).map D.int) ((s : Int).fmod ((xs.length : Int) + 1)) = some (.int c) := by
        obtain ⟨q, hq⟩ : ∃ q : Nat, (s : Int).fmod ((xs.length : Int) + 1) = q := ⟨_, (Int.toNat_of_nonneg bd.1).symm⟩
        rw [hq] at bd ⊢
        have hl : q < ((x :: xs).map D.int).length := by simp; omega
        rw [atD_nat hl]
        exact ⟨_, by rw [List.getElem_map]⟩
      have ml : ∀ hh, bop .mod hh (.int s) (.int ((xs.length : Int) + 1)) = .ok (.int ((s : Int).fmod ((xs.length : Int) + 1))) hh := fun hh => bop_mod _ (by omega)
      have lt : decide ((0 : Int) < (xs.length : Int) + 1) = true := decide_eq_true lp
      have ix : ∀ hh, ixV hh (.lst (D.int x :: xs.map D.int)) (.int ((s : Int).fmod ((xs.length : Int) + 1))) = .ok (.int c) hh := fun hh => ixV_lst ec
      refine ⟨?_, ?_⟩
      rotate_left
      · simp only [List.map_cons] at g0 el
        simp [F_law_draw, g0, g1, bop_add, si, el, r2, cop_gt, fp, blt_lenL, md1, md2, md3, md4, md5, md6, e1, sq, th, la, mx, ml, ix, lt]
        rw [fin_int set_len]
noncomputable def F_law_tape : Fn := .mk 1 1 true
  (.cons (.ret (.alloc (.lst (.cons (.sl (.var 0) .no (.cst (.int 63))) (.cons (.cst (.int 0)) (.cons (.cst (.int 0)) (.cons (.cst (.int 0)) .nil)))))))
  .nil)
theorem tape_ok (ns : List Int) : ∃ ds, callF l F_law_tape [.scr ns] h = .ok (.ref h.length) (h ++ [.lst ds]) ∧ IsTape (h ++ [.lst ds]) h.length 0 := by
  have e : cut (ns.map D.int) none (some 63) = (ns.take 63).map .int := by
    simp [cut, cutIx, List.map_take]
  have z : ∀ k : Nat, ((63 : Int).toNat) = 63 := fun _ => rfl
  have sl : slV h (.scr ns) none (some 63) = .ok (.lst ((ns.take 63).map .int)) h := by
    simp only [slV, listOf]
    rw [e]
  have lt : 4 ≤ sizeLine := by decide
  refine ⟨tapeD (ns.take 63) 0 0 0, ?_, ns.take 63, 0, 0, 0, ?_, by omega, by omega⟩
  · simp [F_law_tape, sl, allocV, fin, tapeD, lt]
  · simp [getL]
/-- several draws leave one changed object -/
theorem getL_app {h : Hh} {o : Ob} {ds : List D} (e : o = .lst ds) : getL (h ++ [o]) h.length = some ds := by subst e; simp [getL]
end
end Mp

namespace K
open PySem Mp
noncomputable def F_is_whole : Fn := .mk 1 1 false
  (.cons (.ret (.and (.isin (.var 0) [.int]) (.not (.isin (.var 0) [.bool]))))
  .nil)

noncomputable def F_divisor_b1 : SL :=
  (.cons (.par 0 1 (.cons (.var 1) (.cons (.bop .mod (.var 0) (.var 1)) .nil)))
  .nil)
noncomputable def F_divisor : Fn := .mk 2 2 false
  (.cons (.while_ (.cmp .ne (.var 1) (.cst (.int 0))) F_divisor_b1 [])
  (.cons (.ret (.var 0))
  .nil))

noncomputable def F_is_ratio : Fn := .mk 1 1 false
  (.cons (.ite (.or (.not (.isin (.var 0) [.tuple])) (.or (.cmp .ne (.blt .len (.cons (.var 0) .nil)) (.cst (.int 2))) (.or (.not (.call "is_whole" F_is_whole (.cons (.ix (.var 0) (.cst (.int 0))) .nil))) (.not (.call "is_whole" F_is_whole (.cons (.ix (.var 0) (.cst (.int 1))) .nil))))))
 (.cons (.ret (.cst (.bl false)))
  .nil)
 .nil)
  (.cons (.ret (.and (.cmp .gt (.ix (.var 0) (.cst (.int 1))) (.cst (.int 0))) (.cmp .eq (.call "divisor" F_divisor (.cons (.blt .abs (.cons (.ix (.var 0) (.cst (.int 0))) .nil)) (.cons (.ix (.var 0) (.cst (.int 1))) .nil))) (.cst (.int 1)))))
  .nil))

noncomputable def F_law_tape : Fn := .mk 1 1 true
  (.cons (.ret (.alloc (.lst (.cons (.sl (.var 0) .no (.cst (.int 63))) (.cons (.cst (.int 0)) (.cons (.cst (.int 0)) (.cons (.cst (.int 0)) .nil)))))))
  .nil)

noncomputable def F_law_draw_b1 : SL :=
  (.cons (.ite (.cmp .ge (.blt .abs (.cons (.ix (.var 2) (.ix (.var 0) (.cst (.int 3)))) .nil)) (.bop .pow (.cst (.int 10)) (.cst (.int 18))))
 (.cons (.ixSet (.var 0) (.cst (.int 2)) (.blt .abs (.cons (.ix (.var 2) (.ix (.var 0) (.cst (.int 3)))) .nil)))
  .nil)
 .nil)
  (.cons (.ixSet (.var 0) (.cst (.int 3)) (.bop .add (.ix (.var 0) (.cst (.int 3))) (.cst (.int 1))))
  .nil))
noncomputable def F_law_draw : Fn := .mk 2 7 false
  (.cons (.set 2 (.ix (.var 0) (.cst (.int 0))))
  (.cons (.set 3 (.ix (.var 0) (.cst (.int 1))))
  (.cons (.ixSet (.var 0) (.cst (.int 1)) (.bop .add (.var 3) (.cst (.int 1))))
  (.cons (.while_ (.and (.cmp .eq (.ix (.var 0) (.cst (.int 2))) (.cst (.int 0))) (.cmp .lt (.ix (.var 0) (.cst (.int 3))) (.blt .len (.cons (.var 2) .nil)))) F_law_draw_b1 [])
  (.cons (.ite (.cmp .gt (.ix (.var 0) (.cst (.int 2))) (.cst (.int 0)))
 (.cons (.set 6 (.ix (.var 0) (.cst (.int 2))))
  (.cons (.ixSet (.var 0) (.cst (.int 2)) (.bop .fdiv (.var 6) (.var 1)))
  (.cons (.ret (.bop .mod (.var 6) (.var 1)))
  .nil)))
 .nil)
  (.cons (.set 4 (.cst (.int 0)))
  (.cons (.ite (.cmp .gt (.blt .len (.cons (.var 2) .nil)) (.cst (.int 0)))
 (.cons (.set 4 (.ix (.var 2) (.bop .mod (.var 3) (.blt .len (.cons (.var 2) .nil)))))
  .nil)
 .nil)
  (.cons (.set 5 (.bop .mod (.bop .mul (.bop .add (.bop .mod (.var 4) (.cst (.int 1000003))) (.cst (.int 1))) (.bop .add (.bop .add (.bop .mul (.bop .mod (.var 3) (.cst (.int 997))) (.cst (.int 7919))) (.cst (.int 104729))) (.var 3))) (.cst (.int 1000033))))
  (.cons (.set 5 (.bop .mod (.bop .add (.bop .add (.bop .mul (.var 5) (.var 5)) (.bop .mul (.cst (.int 3)) (.var 5))) (.var 3)) (.cst (.int 999983))))
  (.cons (.ret (.bop .mod (.bop .mod (.bop .mul (.var 5) (.cst (.int 48271))) (.cst (.int 65537))) (.var 1)))
  .nil))))))))))

noncomputable def F_law_gcd_b1 : SL :=
  (.cons (.par 0 1 (.cons (.var 1) (.cons (.bop .mod (.var 0) (.var 1)) .nil)))
  .nil)
noncomputable def F_law_gcd : Fn := .mk 2 2 false
  (.cons (.while_ (.cmp .ne (.var 1) (.cst (.int 0))) F_law_gcd_b1 [])
  (.cons (.ret (.var 0))
  .nil))

noncomputable def F_law_whole : Fn := .mk 1 1 false
  (.cons (.ret (.and (.isin (.var 0) [.int]) (.not (.isin (.var 0) [.bool]))))
  .nil)

noncomputable def F_law_due : Fn := .mk 1 1 false
  (.cons (.ite (.or (.not (.isin (.var 0) [.tuple])) (.or (.cmp .ne (.blt .len (.cons (.var 0) .nil)) (.cst (.int 2))) (.or (.not (.call "_law_whole" F_law_whole (.cons (.ix (.var 0) (.cst (.int 0))) .nil))) (.not (.call "_law_whole" F_law_whole (.cons (.ix (.var 0) (.cst (.int 1))) .nil))))))
 (.cons (.ret (.cst (.bl false)))
  .nil)
 .nil)
  (.cons (.ret (.and (.cmp .gt (.ix (.var 0) (.cst (.int 1))) (.cst (.int 0))) (.cmp .eq (.call "_law_gcd" F_law_gcd (.cons (.blt .abs (.cons (.ix (.var 0) (.cst (.int 0))) .nil)) (.cons (.ix (.var 0) (.cst (.int 1))) .nil))) (.cst (.int 1)))))
  .nil))

noncomputable def F_law_number : Fn := .mk 1 2 false
  (.cons (.set 1 (.lst (.cons (.cst (.int 0)) (.cons (.cst (.int 1)) (.cons (.neg (.cst (.int 1))) (.cons (.cst (.int 2)) (.cons (.cst (.int 6)) (.cons (.cst (.int 10)) (.cons (.bop .pow (.cst (.int 10)) (.cst (.int 19))) (.cons (.call "_law_draw" F_law_draw (.cons (.var 0) (.cons (.cst (.int 60)) .nil))) (.cons (.bop .sub (.cst (.int 0)) (.call "_law_draw" F_law_draw (.cons (.var 0) (.cons (.cst (.int 60)) .nil)))) (.cons (.call "_law_draw" F_law_draw (.cons (.var 0) (.cons (.cst (.int 60000)) .nil))) .nil))))))))))))
  (.cons (.ret (.ix (.var 1) (.call "_law_draw" F_law_draw (.cons (.var 0) (.cons (.cst (.int 10)) .nil)))))
  .nil))

noncomputable def F_law_things : Fn := .mk 2 6 false
  (.cons (.unp [2, 3] (.var 1))
  (.cons (.set 4 (.ix (.lst (.cons (.cst (.bl true)) (.cons (.cst (.bl false)) (.cons (.cst .non) (.cons (.cst (.str (Str.ofString "1"))) (.cons (.tup (.cons (.cst (.int 1)) .nil)) (.cons (.lst (.cons (.cst (.int 1)) .nil)) (.cons (.tup .nil) .nil)))))))) (.call "_law_draw" F_law_draw (.cons (.var 0) (.cons (.cst (.int 7)) .nil)))))
  (.cons (.set 5 (.lst (.cons (.tup (.cons (.var 4) (.cons (.var 3) .nil))) (.cons (.tup (.cons (.var 2) (.cons (.var 4) .nil))) (.cons (.blt .list (.cons (.var 1) .nil)) (.cons (.bop .add (.var 1) (.tup (.cons (.cst (.int 1)) .nil))) (.cons (.sl (.var 1) .no (.cst (.int 1))) (.cons (.tup .nil) (.cons (.var 4) (.cons (.var 2) (.cons (.tup (.cons (.var 1) .nil)) (.cons (.tup (.cons (.var 3) (.cons (.var 2) .nil))) (.cons (.blt .str (.cons (.var 2) .nil)) .nil)))))))))))))
  (.cons (.ret (.lst (.cons (.var 1) (.cons (.ix (.var 5) (.call "_law_draw" F_law_draw (.cons (.var 0) (.cons (.cst (.int 11)) .nil)))) (.cons (.ix (.var 5) (.call "_law_draw" F_law_draw (.cons (.var 0) (.cons (.cst (.int 11)) .nil)))) .nil)))))
  .nil))))

noncomputable def F_law_b1 : SL :=
  (.cons (.set 5 (.call "is_ratio" F_is_ratio (.cons (.var 4) .nil)))
  (.cons (.ite (.or (.not (.isin (.var 5) [.bool])) (.cmp .ne (.var 5) (.call "_law_due" F_law_due (.cons (.var 4) .nil))))
 (.cons (.ret (.cst (.bl false)))
  .nil)
 .nil)
  .nil))
noncomputable def F_law_b2 : SL :=
  (.cons (.set 3 (.tup (.cons (.call "_law_number" F_law_number (.cons (.var 1) .nil)) (.cons (.call "_law_number" F_law_number (.cons (.var 1) .nil)) .nil))))
  (.cons (.ite (.cmp .eq (.call "_law_draw" F_law_draw (.cons (.var 1) (.cons (.cst (.int 3)) .nil))) (.cst (.int 0)))
 (.cons (.set 3 (.tup (.cons (.bop .mul (.ix (.var 3) (.cst (.int 0))) (.ix (.var 3) (.cst (.int 1)))) (.cons (.ix (.var 3) (.cst (.int 1))) .nil))))
  .nil)
 .nil)
  (.cons (.for_ [4] (.seq (.call "_law_things" F_law_things (.cons (.var 1) (.cons (.var 3) .nil)))) F_law_b1 [4, 5])
  .nil)))
noncomputable def F_law : Fn := .mk 1 6 false
  (.cons (.set 1 (.call "_law_tape" F_law_tape (.cons (.var 0) .nil)))
  (.cons (.for_ [2] (.rg1 (.cst (.int 12))) F_law_b2 [2, 3, 4, 5])
  (.cons (.ret (.cst (.bl true)))
  .nil)))

/-! is_ratio and the law's own answer are one -/
def Wh : D → Bool
  | .int _ => true
  | _ => false
/-- data without objects -/
def Pl : D → Prop
  | .non => True | .bl _ => True | .int _ => True | .str _ => True | .tup _ => True | .lst _ => True
  | _ => False
theorem whole_ok {l : List Nat} {h : Hh} {d : D} (p : Pl d) : callF l F_is_whole [d] h = .ok (.bl (Wh d)) h := by
  cases d <;> first
    | exact p.elim
    | simp [F_is_whole, isinV, isAny, isTy, dTy, tyIs, Wh, fin_bl]
theorem gcd_eq : F_law_gcd = F_divisor := rfl
theorem whole_eq : F_law_whole = F_is_whole := rfl
theorem due_eq {l : List Nat} {h : Hh} {ds : List D} : callF l F_law_due ds h = callF l F_is_ratio ds h := by
  simp only [F_law_due, F_is_ratio, callF_mk, exL_cons, exL_nil, exS_ite, exS_ret, evE_or, evE_not, evE_isin, evE_cmp, evE_call, evE_and, evE_ix, evE_blt, evL_cons, evL_nil, evE_var, evE_cst, gcd_eq, whole_eq]
theorem divisor_ok {l : List Nat} {h : Hh} : ∀ (n : Nat) (a b : Int), 0 ≤ a → 0 ≤ b → b.toNat = n → ∃ v, callF l F_divisor [.int a, .int b] h = .ok (.int v) h := by
  have loop : ∀ (n : Nat) (l : List Nat) (a b : Int), 0 ≤ a → 0 ≤ b → b.toNat = n → ∃ v, whileE l (.cmp .ne (.var 1) (.cst (.int 0))) F_divisor_b1 [] [some (.int a), some (.int b)] h = .ok (.nx [some (.int v), some (.int 0)]) h := by
    intro n
    induction n using Nat.strongRecOn with
    | ind n ih =>
      intro l a b ha hb hn
      by_cases h0 : b = 0
      · subst h0
        exact ⟨a, whileE_stop (by simp [cop_ne])⟩
      · have hb' : (b == 0) = false := by simpa using h0
        have h1 := Int.fmod_nonneg_of_pos a (show 0 < b by omega)
        have h2 := Int.fmod_lt_of_pos a (show 0 < b by omega)
        obtain ⟨v, e⟩ := ih (a.fmod b).toNat (by omega) l b (a.fmod b) hb h1 rfl
        refine ⟨v, ?_⟩
        rw [whileE_step (h1 := h) (σ' := [some (.int b), some (.int (a.fmod b))]) (h2 := h) (by simp [cop_ne, hb']) (by simp [F_divisor_b1, bop_mod _ h0])]
        exact e
  intro n a b ha hb hn
  obtain ⟨v, e⟩ := loop n (h.length :: l) a b ha hb hn
  exact ⟨v, by simp [F_divisor, e, fin_int]⟩
/-- both say the same truth of it -/
def Fine (d : D) : Prop := ∀ (l : List Nat) (h : Hh), ∃ b, callF l F_is_ratio [d] h = .ok (.bl b) h
theorem fine_no {d : D} (p : Pl d) (n : ∀ ds, d ≠ .tup ds) : Fine d := fun l h => ⟨false, by
  cases d <;> first
    | exact p.elim
    | exact absurd rfl (n _)
    | simp [F_is_ratio, isinV, isAny, isTy, dTy, tyIs, fin_bl]⟩
theorem fine_len {ds : List D} (n : ds.length ≠ 2) : Fine (.tup ds) := fun l h => ⟨false, by
  have : ((ds.length : Int) == 2) = false := by rw [beq_eq_false_iff_ne]; omega
  simp [F_is_ratio, isinV, isAny, isTy, dTy, tyIs, fin_bl, blt_lenT, cop_ne, this]⟩
theorem fine_pair {a b : D} (pa : Pl a) (pb : Pl b) : Fine (.tup [a, b]) := fun l h => by
  have i0 : ∀ hh, ixV hh (.tup [a, b]) (.int 0) = .ok a hh := fun hh => ixV_tup rfl
  have i1 : ∀ hh, ixV hh (.tup [a, b]) (.int 1) = .ok b hh := fun hh => ixV_tup rfl
  cases ha : Wh a with
  | false => exact ⟨false, by simp [F_is_ratio, isinV, isAny, isTy, dTy, tyIs, fin_bl, blt_lenT, cop_ne, i0, whole_ok pa, ha]⟩
  | true =>
    cases hb : Wh b with
    | false => exact ⟨false, by simp [F_is_ratio, isinV, isAny, isTy, dTy, tyIs, fin_bl, blt_lenT, cop_ne, i0, i1, whole_ok pa, whole_ok pb, ha, hb]⟩
    | true =>
      obtain ⟨x, rfl⟩ : ∃ x, a = .int x := by cases a <;> first | exact ⟨_, rfl⟩ | cases ha
      obtain ⟨y, rfl⟩ : ∃ y, b = .int y := by cases b <;> first | exact ⟨_, rfl⟩ | cases hb
      by_cases hy : 0 < y
      · obtain ⟨v, ev⟩ := divisor_ok (l := h.length :: l) (h := h) _ (if x < 0 then -x else x) y (by split <;> omega) (by omega) rfl
        exact ⟨v == 1, by simp [F_is_ratio, isinV, isAny, isTy, dTy, tyIs, fin_bl, blt_lenT, cop_ne, i0, i1, whole_ok pa, whole_ok pb, ha, hb, cop_gt, hy, blt_abs, ev, cop_eq]⟩
      · exact ⟨false, by simp [F_is_ratio, isinV, isAny, isTy, dTy, tyIs, fin_bl, blt_lenT, cop_ne, i0, i1, whole_ok pa, whole_ok pb, ha, hb, cop_gt, hy]⟩
theorem draw_is : F_law_draw = Mp.F_law_draw := rfl
theorem tape_is : F_law_tape = Mp.F_law_tape := rfl
theorem atD_mem {xs : List D} {i : Int} (h0 : 0 ≤ i) (h1 : i < xs.length) : ∃ d ∈ xs, atD xs i = some d := by
  obtain ⟨q, rfl⟩ : ∃ q : Nat, i = q := ⟨_, (Int.toNat_of_nonneg h0).symm⟩
  have hl : q < xs.length := by omega
  exact ⟨xs[q], List.getElem_mem hl, atD_nat hl⟩
theorem pow19 (h : Hh) : bop .pow h (.int 10) (.int 19) = .ok (.int 10000000000000000000) h := by simp [bop]
theorem number_ok {l : List Nat} {h : Hh} {n k : Nat} (t : IsTape h n k) (hk : k + 4 < 2 ^ 40) : ∃ v ds, -(2 ^ 64) < v ∧ v < 2 ^ 64 ∧ callF l F_law_number [.ref n] h = .ok (.int v) (h.set n (.lst ds)) ∧ IsTape (h.set n (.lst ds)) n (k + 4) := by
  obtain ⟨v1, d1, a1, b1, e1, t1⟩ := draw_ok (l := h.length :: l) t (by omega) (m := 60) (by decide) (by decide)
  obtain ⟨v2, d2, a2, b2, e2, t2⟩ := draw_ok (l := h.length :: l) t1 (by omega) (m := 60) (by decide) (by decide)
  rw [List.set_set] at e2 t2
  obtain ⟨v3, d3, a3, b3, e3, t3⟩ := draw_ok (l := h.length :: l) t2 (by omega) (m := 60000) (by decide) (by decide)
  rw [List.set_set] at e3 t3
  obtain ⟨v4, d4, a4, b4, e4, t4⟩ := draw_ok (l := h.length :: l) t3 (by omega) (m := 10) (by decide) (by decide)
  rw [List.set_set] at e4 t4
  obtain ⟨d, hd, ix⟩ := atD_mem (xs := [.int 0, .int 1, .int (-1), .int 2, .int 6, .int 10, .int 10000000000000000000, .int v1, .int (0 - v2), .int v3]) a4 b4
  have key : ∃ w, d = .int w ∧ -(2 ^ 64) < w ∧ w < 2 ^ 64 := by
    simp only [List.mem_cons, List.not_mem_nil, or_false] at hd
    rcases hd with rfl | rfl | rfl | rfl | rfl | rfl | rfl | rfl | rfl | rfl <;> exact ⟨_, rfl, by omega, by omega⟩
  obtain ⟨w, rfl, w0, w1⟩ := key
  have iv := fun hh => ixV_lst (h := hh) ix
  simp only [Int.zero_sub] at iv
  refine ⟨w, d4, w0, w1, ?_, t4⟩
  simp [F_law_number, draw_is, e1, e2, e3, e4, pow19, bop_sub, sizeLine_eq, iv]
  rw [fin_int set_len]
/-- a pair of whole numbers that are not too long -/
def Mid (i : Int) : Prop := -(2 ^ 128) < i ∧ i < 2 ^ 128
theorem str_ok {h : Hh} {i : Int} (m : Mid i) : ∃ s, blt .str h [.int i] = .ok (.str s) h := by
  have : i.natAbs.log2 < 1920 := by
    rcases Nat.eq_zero_or_pos i.natAbs with z | z
    · rw [z]; decide
    · refine Nat.lt_of_lt_of_le ((Nat.log2_lt (by omega)).mpr (?_ : i.natAbs < 2 ^ 200)) (by decide)
      have := m.1; have := m.2
      omega
  exact ⟨_, by simp [blt, b_str, this]; rfl⟩
theorem things_ok {l : List Nat} {h : Hh} {n k : Nat} (t : IsTape h n k) (hk : k + 3 < 2 ^ 40) {x y : Int} (hx : Mid x) :
    ∃ ds es, (∀ d ∈ ds, Fine d) ∧ callF l F_law_things [.ref n, .tup [.int x, .int y]] h = .ok (.lst ds) (h.set n (.lst es)) ∧ IsTape (h.set n (.lst es)) n (k + 3) := by
  obtain ⟨v1, d1, a1, b1, e1, t1⟩ := draw_ok (l := h.length :: l) t (by omega) (m := 7) (by decide) (by decide)
  obtain ⟨v2, d2, a2, b2, e2, t2⟩ := draw_ok (l := h.length :: l) t1 (by omega) (m := 11) (by decide) (by decide)
  rw [List.set_set] at e2 t2
  obtain ⟨v3, d3, a3, b3, e3, t3⟩ := draw_ok (l := h.length :: l) t2 (by omega) (m := 11) (by decide) (by decide)
  rw [List.set_set] at e3 t3
  obtain ⟨o, ho, ix1⟩ := atD_mem (xs := [.bl true, .bl false, .non, .str (Str.ofString "1"), .tup [.int 1], .lst [.int 1], .tup []]) a1 b1
  have po : Pl o ∧ Fine o ∧ o.und (h.length) = true := by
    simp only [List.mem_cons, List.not_mem_nil, or_false] at ho
    have ft : ∀ ds : List D, ds.length ≠ 2 → D.unds h.length ds = true → Pl (.tup ds) ∧ Fine (.tup ds) ∧ (D.tup ds).und h.length = true := fun ds n u => ⟨trivial, fine_len n, by simpa [D.und] using u⟩
    rcases ho with rfl | rfl | rfl | rfl | rfl | rfl | rfl
    · exact ⟨trivial, fine_no trivial (by intro _ q; cases q), by simp [D.und, D.unds]⟩
    · exact ⟨trivial, fine_no trivial (by intro _ q; cases q), by simp [D.und, D.unds]⟩
    · exact ⟨trivial, fine_no trivial (by intro _ q; cases q), by simp [D.und, D.unds]⟩
    · exact ⟨trivial, fine_no trivial (by intro _ q; cases q), by simp [D.und, D.unds]⟩
    · exact ft _ (by simp) (by simp [D.und, D.unds])
    · exact ⟨trivial, fine_no trivial (by intro _ q; cases q), by simp [D.und, D.unds]⟩
    · exact ft _ (by simp) (by simp [D.und, D.unds])
  obtain ⟨po, fo, uo⟩ := po
  obtain ⟨s, es⟩ := str_ok (h := h.set n (.lst d1)) hx
  have hxs : ∀ i : Int, 0 ≤ i → i < 11 → ∃ d, atD [.tup [o, .int y], .tup [.int x, o], .lst [.int x, .int y], .tup [.int x, .int y, .int 1], .tup [.int x], .tup [], o, .int x, .tup [.tup [.int x, .int y]], .tup [.int y, .int x], .str s] i = some d ∧ Fine d ∧ d.und h.length = true := by
    intro i h0 h1
    obtain ⟨d, hd, ix⟩ := atD_mem (xs := [.tup [o, .int y], .tup [.int x, o], .lst [.int x, .int y], .tup [.int x, .int y, .int 1], .tup [.int x], .tup [], o, .int x, .tup [.tup [.int x, .int y]], .tup [.int y, .int x], .str s]) h0 (by simpa using h1)
    refine ⟨d, ix, ?_⟩
    simp only [List.mem_cons, List.not_mem_nil, or_false] at hd
    rcases hd with rfl | rfl | rfl | rfl | rfl | rfl | rfl | rfl | rfl | rfl | rfl
    · exact ⟨fine_pair po trivial, by simp [D.und, D.unds, uo]⟩
    · exact ⟨fine_pair trivial po, by simp [D.und, D.unds, uo]⟩
    · exact ⟨fine_no trivial (by intro _ q; cases q), by simp [D.und, D.unds]⟩
    · exact ⟨fine_len (by simp), by simp [D.und, D.unds]⟩
    · exact ⟨fine_len (by simp), by simp [D.und, D.unds]⟩
    · exact ⟨fine_len (by simp), by simp [D.und, D.unds]⟩
    · exact ⟨fo, uo⟩
    · exact ⟨fine_no trivial (by intro _ q; cases q), by simp [D.und, D.unds]⟩
    · exact ⟨fine_len (by simp), by simp [D.und, D.unds]⟩
    · exact ⟨fine_pair trivial trivial, by simp [D.und, D.unds]⟩
    · exact ⟨fine_no trivial (by intro _ q; cases q), by simp [D.und, D.unds]⟩
  obtain ⟨p, i2, fp, up⟩ := hxs v2 a2 b2
  obtain ⟨q, i3, fq, uq⟩ := hxs v3 a3 b3
  have j1 := fun hh => ixV_lst (h := hh) ix1
  have j2 := fun hh => ixV_lst (h := hh) i2
  have j3 := fun hh => ixV_lst (h := hh) i3
  refine ⟨[.tup [.int x, .int y], p, q], d3, ?_, ?_, t3⟩
  · intro d hd
    simp only [List.mem_cons, List.not_mem_nil, or_false] at hd
    rcases hd with rfl | rfl | rfl
    · exact fine_pair trivial trivial
    · exact fp
    · exact fq
  · have lt : ∀ hh, blt .list hh [.tup [.int x, .int y]] = .ok (.lst [.int x, .int y]) hh := fun hh => rfl
    have ad : ∀ hh, bop .add hh (.tup [.int x, .int y]) (.tup [.int 1]) = .ok (.tup [.int x, .int y, .int 1]) hh := fun hh => by simp [bop, sizeLine_eq]
    have sl : ∀ hh, slV hh (.tup [.int x, .int y]) none (some 1) = .ok (.tup [.int x]) hh := fun hh => rfl
    simp [F_law_things, draw_is, e1, e2, e3, j1, j2, j3, lt, ad, sl, es, sizeLine_eq]
    simp [fin, D.und, D.unds, up, uq]
    rw [← set_len (h := h) (n := n) (o := .lst d3), List.take_length]
/-- a turn over the things -/
theorem turn1_ok {l : List Nat} {h : Hh} {d : D} (f : Fine d) {a b c e : Option D} : ∃ z, turnK [4] [4, 5] (exL l F_law_b1) d [a, b, c, e, none, none] h = .ok (.nx z) h ∧ z = [a, b, c, e, none, none] := by
  obtain ⟨v, ev⟩ := f l h
  have ed : callF l F_law_due [d] h = .ok (.bl v) h := due_eq.trans ev
  refine ⟨_, ?_, rfl⟩
  simp [turnK, F_law_b1, ev, ed, isinV, isAny, isTy, dTy, tyIs, cop_neb]
theorem forE_fine {l : List Nat} {h : Hh} {a b c e : Option D} : ∀ {ds : List D}, (∀ d ∈ ds, Fine d) → forE l [4] F_law_b1 [4, 5] [] ds [a, b, c, e, none, none] h = .ok (.nx [a, b, c, e, none, none]) h
  | [], _ => for_nil
  | d :: ds, f => by
    obtain ⟨z, ez, rfl⟩ := turn1_ok (l := l) (h := h) (f d (by simp)) (a := a) (b := b) (c := c) (e := e)
    unfold forE
    rw [for_cons ez]
    exact forE_fine fun d hd => f d (by simp [hd])
theorem turn2_ok {l : List Nat} {h : Hh} {n k : Nat} (t : IsTape h n k) (hk : k + 20 < 2 ^ 40) {s : Option D} {d : D} :
    ∃ es, turnK [2] [2, 3, 4, 5] (exL l F_law_b2) d [s, some (.ref n), none, none, none, none] h = .ok (.nx [s, some (.ref n), none, none, none, none]) (h.set n (.lst es)) ∧ IsTape (h.set n (.lst es)) n (k + 12) := by
  obtain ⟨x, d1, x0, x1, e1, t1⟩ := number_ok (l := l) t (by omega)
  obtain ⟨y, d2, y0, y1, e2, t2⟩ := number_ok (l := l) t1 (by omega)
  rw [List.set_set] at e2 t2
  obtain ⟨v, d3, v0, v1, e3, t3⟩ := draw_ok (l := l) t2 (by omega) (m := 3) (by decide) (by decide)
  rw [List.set_set] at e3 t3
  have i0 : ∀ hh, ixV hh (.tup [.int x, .int y]) (.int 0) = .ok (.int x) hh := fun hh => rfl
  have i1 : ∀ hh, ixV hh (.tup [.int x, .int y]) (.int 1) = .ok (.int y) hh := fun hh => rfl
  have mm : ∀ hh, bop .mul hh (.int x) (.int y) = .ok (.int (x * y)) hh := fun hh => bop_mul _ (sm_lt x0 x1) (sm_lt y0 y1)
  have two : 2 ≤ sizeLine := by decide
  by_cases hv : v = 0
  · have mx : Mid (x * y) := by
      have : (x * y).natAbs < 2 ^ 128 := by
        rw [Int.natAbs_mul]
        refine Nat.lt_of_lt_of_le (Nat.mul_lt_mul'' (show x.natAbs < 2 ^ 64 by omega) (show y.natAbs < 2 ^ 64 by omega)) (by decide)
      exact ⟨by omega, by omega⟩
    obtain ⟨ds, es, fd, e4, t4⟩ := things_ok (l := l) t3 (by omega) (y := y) mx
    rw [List.set_set] at e4 t4
    refine ⟨es, ?_, t4.mono (by omega)⟩
    simp [turnK, F_law_b2, e1, e2, e3, draw_is, hv, two, cop_eq, i0, i1, mm, e4, forE_fine fd]
  · have hv' : (v == 0) = false := by simpa using hv
    obtain ⟨ds, es, fd, e4, t4⟩ := things_ok (l := l) t3 (by omega) (x := x) (y := y) ⟨by omega, by omega⟩
    rw [List.set_set] at e4 t4
    refine ⟨es, ?_, t4.mono (by omega)⟩
    simp [turnK, F_law_b2, e1, e2, e3, draw_is, hv', two, cop_eq, e4, forE_fine fd]
theorem keeps : Keeps 63 F_law := by
  intro ns hns
  obtain ⟨ds, et, t⟩ := tape_ok (l := [0]) (h := []) ns
  have rgk : rgOk 0 12 = true := by decide
  have loop : ∀ (xs : List D) (es : List D) (k : Nat), IsTape [.lst es] 0 k → k + 20 * xs.length < 2 ^ 30 →
      ∃ es', forE [0] [2] F_law_b2 [2, 3, 4, 5] [] xs [some (.scr ns), some (.ref 0), none, none, none, none] [.lst es] = .ok (.nx [some (.scr ns), some (.ref 0), none, none, none, none]) [.lst es'] := by
    intro xs
    induction xs with
    | nil => exact fun es k _ _ => ⟨es, for_nil⟩
    | cons x xs ih =>
      intro es k t hk
      simp only [List.length_cons] at hk
      obtain ⟨es1, e1, t1⟩ := turn2_ok (l := [0]) t (by omega) (s := some (.scr ns)) (d := x)
      obtain ⟨es2, e2⟩ := ih es1 (k + 12) t1 (by omega)
      refine ⟨es2, ?_⟩
      unfold forE at e2 ⊢
      rw [for_cons e1]
      exact e2
  obtain ⟨es, el⟩ := loop (rg 0 12) ds 0 t (by simp [rg])
  refine ⟨[], ?_⟩
  simp only [List.nil_append, List.length_nil] at et
  simp [F_law, tape_is, et, rgV, rgk, el, fin, D.und]

open PySem PySem.Spec PyProof.Rows L2 Mp
noncomputable def top (i : Nat) : Stmt := PySem.Challenge.pw_paceplan_k01_ratios_of_any_thing.main.body.getD i (.Pass ⟨0, 0, 0, 0⟩)
theorem u_is_whole : usesSL F_is_whole.body = [] := by rfl
theorem c_is_whole : defC (top 1) ["thing"] ["thing"] F_is_whole = true := by decide +kernel
theorem u_divisor : usesSL F_divisor.body = [] := by rfl
theorem c_divisor : defC (top 2) ["one", "other"] ["one", "other"] F_divisor = true := by decide +kernel
theorem u_is_ratio : usesSL F_is_ratio.body = [.fn "is_whole" F_is_whole, .fn "is_whole" F_is_whole, .fn "divisor" F_divisor] := by rfl
theorem c_is_ratio : defC (top 3) ["thing"] ["thing"] F_is_ratio = true := by decide +kernel
theorem u_law_tape : usesSL F_law_tape.body = [] := by rfl
theorem c_law_tape : defC (top 5) ["_law_script"] ["_law_script"] F_law_tape = true := by decide +kernel
theorem u_law_draw : usesSL F_law_draw.body = [] := by rfl
theorem c_law_draw : defC (top 6) ["_law_tape_here", "_law_many", "_law_script", "_law_spot", "_law_cell", "_law_mixed", "_law_left"] ["_law_tape_here", "_law_many"] F_law_draw = true := by decide +kernel
theorem u_law_gcd : usesSL F_law_gcd.body = [] := by rfl
theorem c_law_gcd : defC (top 7) ["_law_one", "_law_other"] ["_law_one", "_law_other"] F_law_gcd = true := by decide +kernel
theorem u_law_whole : usesSL F_law_whole.body = [] := by rfl
theorem c_law_whole : defC (top 8) ["_law_thing"] ["_law_thing"] F_law_whole = true := by decide +kernel
theorem u_law_due : usesSL F_law_due.body = [.fn "_law_whole" F_law_whole, .fn "_law_whole" F_law_whole, .fn "_law_gcd" F_law_gcd] := by rfl
theorem c_law_due : defC (top 9) ["_law_thing"] ["_law_thing"] F_law_due = true := by decide +kernel
theorem u_law_number : usesSL F_law_number.body = [.fn "_law_draw" F_law_draw, .fn "_law_draw" F_law_draw, .fn "_law_draw" F_law_draw, .fn "_law_draw" F_law_draw] := by rfl
theorem c_law_number : defC (top 10) ["_law_tape_here", "_law_some"] ["_law_tape_here"] F_law_number = true := by decide +kernel
theorem u_law_things : usesSL F_law_things.body = [.fn "_law_draw" F_law_draw, .fn "_law_draw" F_law_draw, .fn "_law_draw" F_law_draw] := by rfl
theorem c_law_things : defC (top 11) ["_law_tape_here", "_law_pair", "_law_one", "_law_other", "_law_odd", "_law_some"] ["_law_tape_here", "_law_pair"] F_law_things = true := by decide +kernel
theorem u_law : usesSL F_law.body = [.fn "_law_tape" F_law_tape, .fn "_law_number" F_law_number, .fn "_law_number" F_law_number, .fn "_law_draw" F_law_draw, .fn "_law_things" F_law_things, .fn "is_ratio" F_is_ratio, .fn "_law_due" F_law_due] := by rfl
theorem c_law : defC (top 12) ["_law_script", "_law_tape_here", "_law_k", "_law_pair", "_law_thing", "_law_found"] ["_law_script"] F_law = true := by decide +kernel

section
variable {P : Program} {w : World} {K : PySem.W.Frag} {mg : Str → Option Value} {base h : Heap}
theorem all_ok (X : K.In h) (G : h.Ns mainGlobals mg) (fr : ∀ x ∈ bltNames, PySem.W.nsIn K mainGlobals (Str.ofString x) = some none)
  (d_is_whole : Dfn K "is_whole" (top 1) ["thing"])
  (d_divisor : Dfn K "divisor" (top 2) ["one", "other"])
  (d_is_ratio : Dfn K "is_ratio" (top 3) ["thing"])
  (d_law_tape : Dfn K "_law_tape" (top 5) ["_law_script"])
  (d_law_draw : Dfn K "_law_draw" (top 6) ["_law_tape_here", "_law_many"])
  (d_law_gcd : Dfn K "_law_gcd" (top 7) ["_law_one", "_law_other"])
  (d_law_whole : Dfn K "_law_whole" (top 8) ["_law_thing"])
  (d_law_due : Dfn K "_law_due" (top 9) ["_law_thing"])
  (d_law_number : Dfn K "_law_number" (top 10) ["_law_tape_here"])
  (d_law_things : Dfn K "_law_things" (top 11) ["_law_tape_here", "_law_pair"])
  (d_law : Dfn K "law" (top 12) ["_law_script"]) : ∀ {fa : Addr}, mg "law" = some (.ref fa) →
    ∃ fd : FuncData, (∀ (s : Shared) (u : Value), BindsTo s fd ⟨[u], []⟩ [("_law_script", u)]) ∧ ∀ base : Heap, K.In base → base.Ns mainGlobals mg → FnG P w K mg base 3 fa fd ["_law_script"] F_law := by
  intro fa hfa
  refine law_go d_law X G hfa c_law fr fun base _ _ => ?_
  have g_is_whole : CallOk P w K mg base 1 "is_whole" F_is_whole := Dfn.call d_is_whole X G c_is_whole fr (fun u hu => by rw [u_is_whole] at hu; cases hu)
  have g_divisor : CallOk P w K mg base 1 "divisor" F_divisor := Dfn.call d_divisor X G c_divisor fr (fun u hu => by rw [u_divisor] at hu; cases hu)
  have g_is_ratio : CallOk P w K mg base 2 "is_ratio" F_is_ratio := Dfn.call d_is_ratio X G c_is_ratio fr (fun u hu => by
    rw [u_is_ratio] at hu
    simp only [List.mem_cons, List.not_mem_nil, or_false] at hu
    rcases hu with rfl | rfl | rfl
    · exact g_is_whole.mono (by decide)
    · exact g_is_whole.mono (by decide)
    · exact g_divisor.mono (by decide))
  have g_law_tape : CallOk P w K mg base 1 "_law_tape" F_law_tape := Dfn.call d_law_tape X G c_law_tape fr (fun u hu => by rw [u_law_tape] at hu; cases hu)
  have g_law_draw : CallOk P w K mg base 1 "_law_draw" F_law_draw := Dfn.call d_law_draw X G c_law_draw fr (fun u hu => by rw [u_law_draw] at hu; cases hu)
  have g_law_gcd : CallOk P w K mg base 1 "_law_gcd" F_law_gcd := Dfn.call d_law_gcd X G c_law_gcd fr (fun u hu => by rw [u_law_gcd] at hu; cases hu)
  have g_law_whole : CallOk P w K mg base 1 "_law_whole" F_law_whole := Dfn.call d_law_whole X G c_law_whole fr (fun u hu => by rw [u_law_whole] at hu; cases hu)
  have g_law_due : CallOk P w K mg base 2 "_law_due" F_law_due := Dfn.call d_law_due X G c_law_due fr (fun u hu => by
    rw [u_law_due] at hu
    simp only [List.mem_cons, List.not_mem_nil, or_false] at hu
    rcases hu with rfl | rfl | rfl
    · exact g_law_whole.mono (by decide)
    · exact g_law_whole.mono (by decide)
    · exact g_law_gcd.mono (by decide))
  have g_law_number : CallOk P w K mg base 2 "_law_number" F_law_number := Dfn.call d_law_number X G c_law_number fr (fun u hu => by
    rw [u_law_number] at hu
    simp only [List.mem_cons, List.not_mem_nil, or_false] at hu
    rcases hu with rfl | rfl | rfl | rfl
    · exact g_law_draw.mono (by decide)
    · exact g_law_draw.mono (by decide)
    · exact g_law_draw.mono (by decide)
    · exact g_law_draw.mono (by decide))
  have g_law_things : CallOk P w K mg base 2 "_law_things" F_law_things := Dfn.call d_law_things X G c_law_things fr (fun u hu => by
    rw [u_law_things] at hu
    simp only [List.mem_cons, List.not_mem_nil, or_false] at hu
    rcases hu with rfl | rfl | rfl
    · exact g_law_draw.mono (by decide)
    · exact g_law_draw.mono (by decide)
    · exact g_law_draw.mono (by decide))
  exact (fun u hu => by
    rw [u_law] at hu
    simp only [List.mem_cons, List.not_mem_nil, or_false] at hu
    rcases hu with rfl | rfl | rfl | rfl | rfl | rfl | rfl
    · exact g_law_tape.mono (by decide)
    · exact g_law_number.mono (by decide)
    · exact g_law_number.mono (by decide)
    · exact g_law_draw.mono (by decide)
    · exact g_law_things.mono (by decide)
    · exact g_is_ratio.mono (by decide)
    · exact g_law_due.mono (by decide))
end
end K
open PySem PySem.W PyProof.Rows
set_option maxRecDepth 100000 in
set_option maxHeartbeats 8000000 in
theorem PySem.Challenge.cw_paceplan_k01_ratios_of_any_thing_holds : PySem.Challenge.rw_paceplan_k01_ratios_of_any_thing.Holds := by
  w_on; o_law; k_head; (case hw => w_witness2); k_fill
  refine Mp.walk_law (k := 3) (n := 63) (f := K.F_law) (x := "_law_script") rfl (by decide) rfl ⟨rfl, by decide, by decide⟩ (fun w h Y => PySem.W.kIn_of Y) K.keeps ?G
  case G =>
    intro w mg fa h KX G hmg
    refine K.all_ok KX G ?fr ?d0 ?d1 ?d2 ?d3 ?d4 ?d5 ?d6 ?d7 ?d8 ?d9 ?d10 hmg
    case fr =>
      intro x hx
      simp only [Mp.bltNames, List.mem_cons, List.not_mem_nil, or_false] at hx
      rcases hx with rfl | rfl | rfl | rfl | rfl | rfl | rfl | rfl | rfl | rfl | rfl | rfl | rfl | rfl | rfl | rfl | rfl | rfl | rfl | rfl <;> k_is
    case d0 =>
      refine' Mp.dfn_mk (ps := ["thing"]) ?a0 ?l0 ?c0 ?k0 (fun _ _ _ _ _ _ us hl => match us, hl with | [_], _ => rfl)
      (case a0 => k_is); (case l0 => k_is); (case c0 => k_is); (case k0 => k_is)
    case d1 =>
      refine' Mp.dfn_mk (ps := ["one", "other"]) ?a1 ?l1 ?c1 ?k1 (fun _ _ _ _ _ _ us hl => match us, hl with | [_, _], _ => rfl)
      (case a1 => k_is); (case l1 => k_is); (case c1 => k_is); (case k1 => k_is)
    case d2 =>
      refine' Mp.dfn_mk (ps := ["thing"]) ?a2 ?l2 ?c2 ?k2 (fun _ _ _ _ _ _ us hl => match us, hl with | [_], _ => rfl)
      (case a2 => k_is); (case l2 => k_is); (case c2 => k_is); (case k2 => k_is)
    case d3 =>
      refine' Mp.dfn_mk (ps := ["_law_script"]) ?a3 ?l3 ?c3 ?k3 (fun _ _ _ _ _ _ us hl => match us, hl with | [_], _ => rfl)
      (case a3 => k_is); (case l3 => k_is); (case c3 => k_is); (case k3 => k_is)
    case d4 =>
      refine' Mp.dfn_mk (ps := ["_law_tape_here", "_law_many"]) ?a4 ?l4 ?c4 ?k4 (fun _ _ _ _ _ _ us hl => match us, hl with | [_, _], _ => rfl)
      (case a4 => k_is); (case l4 => k_is); (case c4 => k_is); (case k4 => k_is)
    case d5 =>
      refine' Mp.dfn_mk (ps := ["_law_one", "_law_other"]) ?a5 ?l5 ?c5 ?k5 (fun _ _ _ _ _ _ us hl => match us, hl with | [_, _], _ => rfl)
      (case a5 => k_is); (case l5 => k_is); (case c5 => k_is); (case k5 => k_is)
    case d6 =>
      refine' Mp.dfn_mk (ps := ["_law_thing"]) ?a6 ?l6 ?c6 ?k6 (fun _ _ _ _ _ _ us hl => match us, hl with | [_], _ => rfl)
      (case a6 => k_is); (case l6 => k_is); (case c6 => k_is); (case k6 => k_is)
    case d7 =>
      refine' Mp.dfn_mk (ps := ["_law_thing"]) ?a7 ?l7 ?c7 ?k7 (fun _ _ _ _ _ _ us hl => match us, hl with | [_], _ => rfl)
      (case a7 => k_is); (case l7 => k_is); (case c7 => k_is); (case k7 => k_is)
    case d8 =>
      refine' Mp.dfn_mk (ps := ["_law_tape_here"]) ?a8 ?l8 ?c8 ?k8 (fun _ _ _ _ _ _ us hl => match us, hl with | [_], _ => rfl)
      (case a8 => k_is); (case l8 => k_is); (case c8 => k_is); (case k8 => k_is)
    case d9 =>
      refine' Mp.dfn_mk (ps := ["_law_tape_here", "_law_pair"]) ?a9 ?l9 ?c9 ?k9 (fun _ _ _ _ _ _ us hl => match us, hl with | [_, _], _ => rfl)
      (case a9 => k_is); (case l9 => k_is); (case c9 => k_is); (case k9 => k_is)
    case d10 =>
      refine' Mp.dfn_mk (ps := ["_law_script"]) ?a10 ?l10 ?c10 ?k10 (fun _ _ _ _ _ _ us hl => match us, hl with | [_], _ => rfl)
      (case a10 => k_is); (case l10 => k_is); (case c10 => k_is); (case k10 => k_is)

