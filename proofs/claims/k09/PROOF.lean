import PyProof.Rows.All
import PySem.PyData
import HandS.Base
import HandS.ForMost
import HandS.Exc
import HandS.ExcOwn
import HandS.TupMul
import HandS.Wide
import HandS.TupAny
import HandS.TupLe
import HandS.Style
import HandS.Deep
import HandS.IsInst
import HandS.Rev
import HandS.SortInts
import HandS.Conv
import HandS.Zip
import PyProof.ReprRoads
import HandS.SetFor
import HandS.Text
import HandS.Sort
import HandS.Dict
import HandS.Small
import HandS.More
import HandS.Iter
import HandS.Comp
import HandS.ExcIs
import HandS.ExcField
import HandS.ExcInit
import KE.GoesEnum
import HandS.WordsExc
import HandS.HeadWalk
import HandS.ExcValue
import HandS.Strs
import HandS.Set
import HandS.Ends
import HandS.Words
import HandS.TryOnly
import PyProof.FitsInt
import PyProof.P3Eq
import PyProof.StrLaws
import PyProof.StrLawsRepr
import PySem.Challenge.RW_paceplan_k09_rules_let_by_or_not
set_option Elab.async false
set_option linter.all false
/-! Mp1: mini python: values, a small heap, syntax, the evaluator. -/
namespace Mp
open PySem

/-- values: deep, but for what stands in the small heap -/
inductive D where
  | non | bl (b : Bool) | int (i : Int) | str (s : Str)
  | tup (ds : List D) | lst (ds : List D)
  | ref (n : Nat)
  | scr (ns : List Int)
  | exc (c : String) (fs : List D)
  | fn (x : String)
  deriving Inhabited

abbrev Ky := Sum Int Str
inductive Ob where
  | lst (ds : List D)
  | dk (kvs : List (Ky × D))
  | dt (kvs : List (List Ky × D))
  | ins (c : String) (fs : List (String × D))
  deriving Inhabited
abbrev Hh := List Ob

inductive R (α : Type) where
  | ok (a : α) (h : Hh)
  | ex (c : String) (fs : List D) (h : Hh)
  | bad
def R.bind {α β : Type} (r : R α) (f : α → Hh → R β) : R β := match r with
  | .ok a h => f a h
  | .ex c fs h => .ex c fs h
  | .bad => .bad
@[simp] theorem R.bind_ok {α β : Type} (a : α) (h : Hh) (f : α → Hh → R β) : (R.ok a h).bind f = f a h := rfl
@[simp] theorem R.bind_ex {α β : Type} (c : String) (fs : List D) (h : Hh) (f : α → Hh → R β) : (R.ex (α := α) c fs h).bind f = .ex c fs h := rfl
@[simp] theorem R.bind_bad {α β : Type} (f : α → Hh → R β) : (R.bad (α := α)).bind f = .bad := rfl

/-! ### looks at values -/
mutual
/-- all refs are below l -/
def D.und (l : Nat) : D → Bool
  | .ref n => decide (n < l)
  | .tup ds => D.unds l ds
  | .lst ds => D.unds l ds
  | .exc _ ds => D.unds l ds
  | _ => true
def D.unds (l : Nat) : List D → Bool
  | [] => true
  | d :: ds => d.und l && D.unds l ds
end
mutual
/-- plain data (no ref within) -/
def D.flat : D → Option PyData
  | .non => some .none
  | .bl b => some (.bool b)
  | .int i => some (.int i)
  | .str s => some (.str s)
  | .tup ds => (D.flats ds).map .tuple
  | .lst ds => (D.flats ds).map .list
  | _ => none
def D.flats : List D → Option (List PyData)
  | [] => some []
  | d :: ds => match d.flat, D.flats ds with
    | some x, some xs => some (x :: xs)
    | _, _ => none
end
/-- the items of a list that stands in the heap -/
def getL (h : Hh) (n : Nat) : Option (List D) := match h[n]? with
  | some (.lst ds) => some ds
  | _ => none
mutual
/-- data, refs to lists of plain data read -/
def D.py (h : Hh) : D → Option PyData
  | .non => some .none
  | .bl b => some (.bool b)
  | .int i => some (.int i)
  | .str s => some (.str s)
  | .tup ds => (D.pys h ds).map .tuple
  | .lst ds => (D.pys h ds).map .list
  | .ref n => (getL h n).bind fun ds => (D.flats ds).map .list
  | _ => none
def D.pys (h : Hh) : List D → Option (List PyData)
  | [] => some []
  | d :: ds => match d.py h, D.pys h ds with
    | some x, some xs => some (x :: xs)
    | _, _ => none
end
/-- a list that may be written or laid to another one -/
def lstOf (h : Hh) : D → Option (List D)
  | .lst ds => some ds
  | .ref n => getL h n
  | _ => none
/-- what a list is extended by -/
def extOf (h : Hh) : D → Option (List D)
  | .tup ds => some ds
  | d => lstOf h d
def listOf (h : Hh) : D → Option (List D)
  | .scr ns => some (ns.map .int)
  | d => lstOf h d
/-- a list's or a tuple's items -/
def seqOf (h : Hh) : D → Option (List D)
  | .tup ds => some ds
  | d => listOf h d
def intsOf : List D → Option (List Int)
  | [] => some []
  | .int i :: ds => (intsOf ds).map (i :: ·)
  | _ => none
def blsOf : List D → Option (List Bool)
  | [] => some []
  | .bl i :: ds => (blsOf ds).map (i :: ·)
  | _ => none
def strsOf : List D → Option (List Str)
  | [] => some []
  | .str i :: ds => (strsOf ds).map (i :: ·)
  | _ => none

/-! ### operators -/
inductive Bop where | add | sub | mul | mod | fdiv | pow
  deriving DecidableEq
inductive Cop where | eq | ne | lt | le | gt | ge | inn | nin
  deriving DecidableEq
/-- fits a machine's word (no symbol is reckoned out by the kernel) -/
def in63 (i : Int) : Bool := Nat.ble i.natAbs 9000000000000000000
theorem in63_of {i : Int} (h : in63 i = true) : -(2 ^ 63) ≤ i ∧ i < 2 ^ 63 := by
  unfold in63 at h
  rw [Nat.ble_eq] at h
  omega
def small (i : Int) : Bool := decide (i.natAbs < 2 ^ 9000)
/-- where a place lies -/
def ixAt (n : Nat) (i : Int) : Option Nat := if 0 ≤ i then (if i < n then some i.toNat else none) else if -(n : Int) ≤ i then some (i + n).toNat else none
def atD {α : Type} (xs : List α) (i : Int) : Option α := (ixAt xs.length i).bind fun j => xs[j]?
def cutIx (n d : Nat) : Option Int → Nat
  | none => d
  | some v => if v < 0 then (v + (n : Int)).toNat else min v.toNat n
def cut {α : Type} (xs : List α) (lo hi : Option Int) : List α := (xs.drop (cutIx xs.length 0 lo)).take (cutIx xs.length xs.length hi - cutIx xs.length 0 lo)
def lexLt : List Int → List Int → Bool
  | [], [] => false
  | [], _ :: _ => true
  | _ :: _, [] => false
  | x :: xs, y :: ys => if x = y then lexLt xs ys else decide (x < y)

def bop (o : Bop) (h : Hh) (a b : D) : R D := match o with
  | .add => match a, b with
    | .int i, .int j => .ok (.int (i + j)) h
    | .str x, .str y => if x.length + y.length ≤ sizeLine then .ok (.str (x ++ y)) h else .bad
    | .tup xs, .tup ys => if xs.length + ys.length ≤ sizeLine then .ok (.tup (xs ++ ys)) h else .bad
    | _, _ => match lstOf h a, lstOf h b with
      | some xs, some ys => if xs.length + ys.length ≤ sizeLine then .ok (.lst (xs ++ ys)) h else .bad
      | _, _ => .bad
  | .sub => match a, b with
    | .int i, .int j => .ok (.int (i - j)) h
    | _, _ => .bad
  | .mul => match a, b with
    | .int i, .int j => if small i && small j then .ok (.int (i * j)) h else .bad
    | .lst xs, .int k => if in63 k = true ∧ xs.length * k.toNat ≤ sizeLine then .ok (.lst (List.replicate k.toNat xs).flatten) h else .bad
    | .tup xs, .int k => if k = 1 then .ok (.tup xs) h else if xs.length ≠ 0 ∧ 2 ≤ k ∧ Nat.ble k.natAbs 1000 = true ∧ Nat.ble xs.length 1000 = true then .ok (.tup (List.replicate k.toNat xs).flatten) h else .bad
    | _, _ => .bad
  | .mod => match a, b with
    | .int i, .int j => if j = 0 then .bad else .ok (.int (i.fmod j)) h
    | _, _ => .bad
  | .fdiv => match a, b with
    | .int i, .int j => if j = 0 ∨ small j = false then .bad else .ok (.int (i.fdiv j)) h
    | _, _ => .bad
  | .pow => match a, b with
    | .int i, .int j => if 0 ≤ j ∧ Nat.ble j.natAbs 1000000 = true ∧ i.natAbs < 2 ^ 64 then .ok (.int (i ^ j.toNat)) h else .bad
    | _, _ => .bad

def cop (o : Cop) (h : Hh) (a b : D) : R D := match o with
  | .eq => match a.py h, b.py h with
    | some x, some y => if SeqAt.shaped x && SeqAt.shaped y then .ok (.bl (PyData.eqv x y)) h else .bad
    | _, _ => .bad
  | .ne => match a.py h, b.py h with
    | some x, some y => if SeqAt.shaped x && SeqAt.shaped y then .ok (.bl (!PyData.eqv x y)) h else .bad
    | _, _ => .bad
  | .lt => match a, b with
    | .int i, .int j => .ok (.bl (decide (i < j))) h
    | .tup xs, .tup ys => match intsOf xs, intsOf ys with
      | some ns, some ms => .ok (.bl (lexLt ns ms)) h
      | _, _ => .bad
    | _, _ => .bad
  | .le => match a, b with
    | .int i, .int j => .ok (.bl (decide (i ≤ j))) h
    | _, _ => .bad
  | .gt => match a, b with
    | .int i, .int j => .ok (.bl (decide (j < i))) h
    | .tup xs, .tup ys => match intsOf xs, intsOf ys with
      | some ns, some ms => .ok (.bl (lexLt ms ns)) h
      | _, _ => .bad
    | _, _ => .bad
  | .ge => match a, b with
    | .int i, .int j => .ok (.bl (decide (j ≤ i))) h
    | _, _ => .bad
  | .inn => match a.py h, (seqOf h b).bind (D.pys h) with
    | some x, some ys => if SeqAt.shaped x && SeqAt.shaped (.list ys) then .ok (.bl (ys.any fun z => PyData.eqv z x)) h else .bad
    | _, _ => .bad
  | .nin => match a.py h, (seqOf h b).bind (D.pys h) with
    | some x, some ys => if SeqAt.shaped x && SeqAt.shaped (.list ys) then .ok (.bl (!ys.any fun z => PyData.eqv z x)) h else .bad
    | _, _ => .bad

/-! ### built-in functions and methods, by values -/
inductive Ty where | int | bool | tuple | list | str | own (c : String)
  deriving DecidableEq
/-- the classes above an own exception's class -/
def above : List String := ["PaceError", "ValueError", "Exception", "BaseException"]
def excSub (c c' : String) : Bool := c == c' || above.contains c'
/-- the fields of the refusals -/
def excF : String → List String
  | "NoSheet" => ["word", "number"] | "NoMix" => ["word", "number"] | "NoPlan" => ["word", "number"] | "NoStretch" => ["word", "number"] | "NoBill" => ["word", "number"]
  | "NoRoom" => ["work"] | "NoPrice" => ["work"] | "NoRule" => ["number"] | "NoSpeed" => ["speed"] | "NoText" => ["at"] | "NoLeast" => ["over"] | "NoMuch" => ["word"]
  | _ => []
def tyName : Ty → String
  | .int => "int" | .bool => "bool" | .tuple => "tuple" | .list => "list" | .str => "str" | .own c => c
/-- a value's built-in type -/
def dTy (h : Hh) : D → Option String
  | .non => some "NoneType" | .bl _ => some "bool" | .int _ => some "int" | .str _ => some "str" | .tup _ => some "tuple" | .lst _ => some "list"
  | .ref n => (getL h n).map fun _ => "list"
  | _ => none
def tyIs (t : Ty) (a : String) : Bool := match t with
  | .int => a == "int" || a == "bool"
  | .bool => a == "bool" | .tuple => a == "tuple" | .list => a == "list" | .str => a == "str" | .own _ => false
def isTy (h : Hh) (d : D) (t : Ty) : Option Bool := match t with
  | .own c' => match d with
    | .exc c _ => some (excSub c c')
    | _ => none
  | t => (dTy h d).map (tyIs t)

inductive Blt where
  | len | abs | min2 | max2 | minL | maxL | sum | all | any
  | tuple | list | listR1 | listR2 | tupR1 | tupR2
  | sorted | sortedSet | lenSet | int | str | repr | listRev
  | dnew | dget | sortedD
  | inR (neg two : Bool)
  deriving DecidableEq
def rg (a b : Int) : List D := (List.range (b - a).toNat).map fun (i : Nat) => D.int (a + (i : Int))
/-- a list's items once each, the first ones kept -/
def dedup : List Int → List Int
  | [] => []
  | x :: xs => x :: (dedup xs).filter (· != x)
def insI (x : Int) : List Int → List Int
  | [] => [x]
  | y :: ys => if x ≤ y then x :: y :: ys else y :: insI x ys
def sortI : List Int → List Int
  | [] => []
  | x :: xs => insI x (sortI xs)
def rgOk (a b : Int) : Bool := Nat.ble a.natAbs 1000000000000 && (Nat.ble b.natAbs 1000000000000 && Nat.ble (b - a).toNat 16777216)
theorem rgOk_of {a b : Int} (h : rgOk a b = true) : -(2 ^ 62) ≤ a ∧ a < 2 ^ 62 ∧ -(2 ^ 62) ≤ b ∧ b < 2 ^ 62 ∧ b - a ≤ 16777216 := by
  unfold rgOk at h
  simp only [Bool.and_eq_true, Nat.ble_eq] at h
  omega

def b_len (h : Hh) : List D → R D
  | [d] => match d with
    | .str s => if s.length ≤ sizeLine then .ok (.int s.length) h else .bad
    | d => match seqOf h d with
      | some xs => .ok (.int xs.length) h
      | none => .bad
  | _ => .bad
def b_abs (h : Hh) : List D → R D
  | [.int i] => .ok (.int (if i < 0 then -i else i)) h
  | _ => .bad
def b_min2 (h : Hh) : List D → R D
  | [.int i, .int j] => .ok (.int (if j < i then j else i)) h
  | _ => .bad
def b_max2 (h : Hh) : List D → R D
  | [.int i, .int j] => .ok (.int (if j > i then j else i)) h
  | _ => .bad
def b_minL (h : Hh) : List D → R D
  | [d] => match (listOf h d).bind intsOf with
    | some (n :: ns) => .ok (.int (ns.foldl min n)) h
    | _ => .bad
  | _ => .bad
def b_maxL (h : Hh) : List D → R D
  | [d] => match (listOf h d).bind intsOf with
    | some (n :: ns) => .ok (.int (ns.foldl max n)) h
    | _ => .bad
  | _ => .bad
def b_sum (h : Hh) : List D → R D
  | [d] => match (listOf h d).bind intsOf with
    | some ns => .ok (.int ns.sum) h
    | _ => .bad
  | _ => .bad
def b_all (h : Hh) : List D → R D
  | [d] => match (listOf h d).bind blsOf with
    | some bs => .ok (.bl (bs.all id)) h
    | _ => .bad
  | _ => .bad
def b_any (h : Hh) : List D → R D
  | [d] => match (listOf h d).bind blsOf with
    | some bs => .ok (.bl (bs.any id)) h
    | _ => .bad
  | _ => .bad
def b_tuple (h : Hh) : List D → R D
  | [d] => match seqOf h d with
    | some xs => .ok (.tup xs) h
    | none => .bad
  | _ => .bad
def b_list (h : Hh) : List D → R D
  | [d] => match seqOf h d with
    | some xs => .ok (.lst xs) h
    | none => .bad
  | _ => .bad
def b_listR1 (h : Hh) : List D → R D
  | [.int n] => if rgOk 0 n then .ok (.lst (rg 0 n)) h else .bad
  | _ => .bad
def b_listR2 (h : Hh) : List D → R D
  | [.int a, .int b] => if rgOk a b then .ok (.lst (rg a b)) h else .bad
  | _ => .bad
def b_listRev (h : Hh) : List D → R D
  | [d] => match listOf h d with
    | some xs => .ok (.lst xs.reverse) h
    | none => .bad
  | _ => .bad
def b_tupR1 (h : Hh) : List D → R D
  | [.int n] => if rgOk 0 n then .ok (.tup (rg 0 n)) h else .bad
  | _ => .bad
def b_tupR2 (h : Hh) : List D → R D
  | [.int a, .int b] => if rgOk a b then .ok (.tup (rg a b)) h else .bad
  | _ => .bad
def b_sorted (h : Hh) : List D → R D
  | [d] => match (seqOf h d).bind intsOf with
    | some ns => .ok (.lst ((sortI ns).map .int)) h
    | _ => .bad
  | _ => .bad
def b_sortedSet (h : Hh) : List D → R D
  | [d] => match (seqOf h d).bind intsOf with
    | some ns => if ns.length < 64 then .ok (.lst ((sortI (dedup ns)).map .int)) h else .bad
    | _ => .bad
  | _ => .bad
def b_lenSet (h : Hh) : List D → R D
  | [d] => match (listOf h d).bind intsOf with
    | some ns => if ns.length ≤ 4000 then .ok (.int (dedup ns).length) h else .bad
    | _ => .bad
  | _ => .bad
def b_int (h : Hh) : List D → R D
  | [.bl b] => .ok (.int (if b then 1 else 0)) h
  | [.int i] => .ok (.int i) h
  | _ => .bad
def b_str (h : Hh) : List D → R D
  | [.int i] => if i.natAbs.log2 < 1920 then .ok (.str (toString i : String)) h else .bad
  | _ => .bad
def b_repr (h : Hh) : List D → R D
  | [d] => match d.py h with
    | some x => if x.showable && decide (x.shown.length ≤ sizeLine) && decide (x.depth ≤ 64) then .ok (.str x.shown) h else .bad
    | none => .bad
  | _ => .bad
/-! dicts of the small heap -/
def keyOf : D → Option Ky
  | .int i => some (.inl i)
  | .str s => some (.inr s)
  | _ => none
def getK (h : Hh) (n : Nat) : Option (List (Ky × D)) := match h[n]? with
  | some (.dk kvs) => some kvs
  | _ => none
def lookK (kvs : List (Ky × D)) (k : Ky) : Option D := (kvs.find? fun kv => decide (kv.1 = k)).map (·.2)
def putD (kvs : List (Ky × D)) (k : Ky) (v : D) : List (Ky × D) :=
  if (kvs.any fun kv => decide (kv.1 = k)) = true then kvs.map (fun kv => if kv.1 = k then (kv.1, v) else kv) else kvs ++ [(k, v)]
def intsK : List Ky → Option (List Int)
  | [] => some []
  | .inl i :: r => (intsK r).map (i :: ·)
  | _ => none
/-- the k-th part of each value -/
def partsK (k : Nat) : List D → Option (List D)
  | [] => some []
  | .tup ds :: r => match ds[k]?, partsK k r with
    | some x, some xs => some (x :: xs)
    | _, _ => none
  | _ => none
/-- x in range(a, b), x not in range(a, b) -/
def b_inR (neg two : Bool) (h : Hh) : List D → R D
  | [.int i, .int b] => if two = false then .ok (.bl (neg != decide (0 ≤ i ∧ i < b))) h else .bad
  | [.int i, .int a, .int b] => if two = true then .ok (.bl (neg != decide (a ≤ i ∧ i < b))) h else .bad
  | _ => .bad
def b_dnew (h : Hh) : List D → R D
  | [] => .ok (.ref h.length) (h ++ [.dk []])
  | _ => .bad
def b_dget (h : Hh) : List D → R D
  | [.ref n, i] => match getK h n, keyOf i with
    | some kvs, some k => match lookK kvs k with
      | some d => .ok d h
      | none => .bad
    | _, _ => .bad
  | _ => .bad
def b_sortedD (h : Hh) : List D → R D
  | [.ref n] => match (getK h n).bind fun kvs => intsK (kvs.map (·.1)) with
    | some ns => if ns.length < 64 then .ok (.lst ((sortI ns).map .int)) h else .bad
    | none => .bad
  | _ => .bad
def pickV (ps : List (Int × Int)) (h : Hh) : D → R D
  | .int i => match lookK (ps.foldl (fun acc p => putD acc (.inl p.1) (.int p.2)) []) (.inl i) with
    | some d => if ps.length ≤ 15 ∧ ps ≠ [] then .ok d h else .bad
    | none => .bad
  | _ => .bad
def valsV (k : Nat) (h : Hh) : D → R D
  | .ref n => match (getK h n).bind fun kvs => partsK k (kvs.map (·.2)) with
    | some xs => if xs.length < sizeLine ∧ k < 1000 then .ok (.lst xs) h else .bad
    | none => .bad
  | _ => .bad
def blt (b : Blt) (h : Hh) (ds : List D) : R D := match b with
  | .dnew => b_dnew h ds
  | .dget => b_dget h ds
  | .sortedD => b_sortedD h ds
  | .inR neg two => b_inR neg two h ds
  | .len => b_len h ds
  | .abs => b_abs h ds
  | .min2 => b_min2 h ds
  | .max2 => b_max2 h ds
  | .minL => b_minL h ds
  | .maxL => b_maxL h ds
  | .sum => b_sum h ds
  | .all => b_all h ds
  | .any => b_any h ds
  | .tuple => b_tuple h ds
  | .list => b_list h ds
  | .listR1 => b_listR1 h ds
  | .listR2 => b_listR2 h ds
  | .tupR1 => b_tupR1 h ds
  | .tupR2 => b_tupR2 h ds
  | .sorted => b_sorted h ds
  | .sortedSet => b_sortedSet h ds
  | .lenSet => b_lenSet h ds
  | .listRev => b_listRev h ds
  | .int => b_int h ds
  | .str => b_str h ds
  | .repr => b_repr h ds

inductive Bm where
  | append | extend | insert | pop | popAt | remove | reverse | index | join | count | split
  deriving DecidableEq
/-- a store of d into the object n: within the region, or of older things alone -/
def stOk (l : List Nat) (n : Nat) (d : D) : Bool := l.all fun b => decide (b ≤ n) || d.und b
def m_append (l : List Nat) (h : Hh) (o : D) (ds : List D) : R D := match o, ds with
  | .ref n, [d] => match getL h n with
    | some xs => if stOk l n d && decide (xs.length < sizeLine) then .ok .non (h.set n (.lst (xs ++ [d]))) else .bad
    | none => .bad
  | _, _ => .bad
def m_extend (l : List Nat) (h : Hh) (o : D) (ds : List D) : R D := match o, ds with
  | .ref n, [d] => match getL h n, extOf h d with
    | some xs, some ys => if stOk l n (.lst ys) && decide (xs.length + ys.length ≤ sizeLine) then .ok .non (h.set n (.lst (xs ++ ys))) else .bad
    | _, _ => .bad
  | _, _ => .bad
def m_insert (l : List Nat) (h : Hh) (o : D) (ds : List D) : R D := match o, ds with
  | .ref n, [.int i, d] => match getL h n with
    | some xs => if stOk l n d && decide (xs.length < sizeLine ∧ 0 ≤ i ∧ in63 i = true) then .ok .non (h.set n (.lst (xs.take i.toNat ++ [d] ++ xs.drop i.toNat))) else .bad
    | none => .bad
  | _, _ => .bad
def m_pop (l : List Nat) (h : Hh) (o : D) (ds : List D) : R D := match o, ds with
  | .ref n, [] => match getL h n with
    | some xs => match xs[xs.length - 1]? with
      | some y => .ok y (h.set n (.lst xs.dropLast))
      | none => .bad
    | none => .bad
  | _, _ => .bad
def m_popAt (l : List Nat) (h : Hh) (o : D) (ds : List D) : R D := match o, ds with
  | .ref n, [.int i] => match getL h n with
    | some xs => match ixAt xs.length i with
      | some k => match xs[k]? with
        | some y => if in63 i = true then .ok y (h.set n (.lst (xs.eraseIdx k))) else .bad
        | none => .bad
      | none => .bad
    | none => .bad
  | _, _ => .bad
def m_reverse (l : List Nat) (h : Hh) (o : D) (ds : List D) : R D := match o, ds with
  | .ref n, [] => match getL h n with
    | some xs => .ok .non (h.set n (.lst xs.reverse))
    | none => .bad
  | _, _ => .bad
def m_remove (l : List Nat) (h : Hh) (o : D) (ds : List D) : R D := match o, ds with
  | .ref n, [.int k] => match (getL h n).bind intsOf with
    | some ns => match ns.findIdx? (fun z => z == k) with
      | some j => .ok .non (h.set n (.lst ((ns.eraseIdx j).map .int)))
      | none => .bad
    | none => .bad
  | _, _ => .bad
def m_index (h : Hh) (o : D) (ds : List D) : R D := match ds with
  | [d] => match (lstOf h o).bind (D.pys h), d.py h with
    | some ys, some x => if SeqAt.shaped x && SeqAt.shaped (.list ys) then match ys.findIdx? (fun z => PyData.eqv z x) with
        | some j => .ok (.int j) h
        | none => .bad
      else .bad
    | _, _ => .bad
  | _ => .bad
def m_count (h : Hh) (o : D) (ds : List D) : R D := match ds with
  | [.int k] => match (listOf h o).bind intsOf with
    | some ns => .ok (.int (ns.count k)) h
    | none => .bad
  | _ => .bad
def m_join (h : Hh) (o : D) (ds : List D) : R D := match o, ds with
  | .str a, [d] => match (seqOf h d).bind strsOf with
    | some ys => if (ys.map (·.length)).sum + ys.length * a.length ≤ 16777216 then .ok (.str (Txt.join a ys)) h else .bad
    | none => .bad
  | _, _ => .bad
def m_split (h : Hh) (o : D) (ds : List D) : R D := match o, ds with
  | .str a, [.str b] => if (b.length == 0) = false ∧ a.length + 2 ≤ sizeLine then .ok (.lst ((Txt.split a b).map .str)) h else .bad
  | _, _ => .bad
def bm (m : Bm) (l : List Nat) (h : Hh) (o : D) (ds : List D) : R D := match m with
  | .append => m_append l h o ds
  | .extend => m_extend l h o ds
  | .insert => m_insert l h o ds
  | .pop => m_pop l h o ds
  | .popAt => m_popAt l h o ds
  | .reverse => m_reverse l h o ds
  | .remove => m_remove l h o ds
  | .index => m_index h o ds
  | .join => m_join h o ds
  | .count => m_count h o ds
  | .split => m_split h o ds
/-- the receiver's kind -/
def bmTy : Bm → String
  | .join => "str"
  | .split => "str"
  | _ => "list"
def recv (t : String) (h : Hh) (o : D) : Bool := match t, o with
  | "str", .str _ => true
  | "list", .ref n => (getL h n).isSome
  | "list", .lst _ => true
  | _, _ => false

/-! ### the syntax -/
mutual
inductive E where
  | no                                   -- where an optional part lacks
  | var (i : Nat)
  | cst (d : D)
  | glob (x : String) (d : D)
  | bop (o : Bop) (a b : E)
  | neg (a : E)
  | not (a : E)
  | and (a b : E)
  | or (a b : E)
  | cmp (o : Cop) (a b : E)
  | chain (o p : Cop) (a b c : E)
  | chain3 (o p q : Cop) (a b c d : E)
  | isN (a : E)
  | notN (a : E)
  | isB (a : E) (b : Bool)
  | notB (a : E) (b : Bool)
  | ite (c a b : E)
  | tup (es : EL)
  | lst (es : EL)
  | ix (a b : E)
  | sl (a lo hi : E)
  | rev (a : E)
  | call (x : String) (f : Fn) (es : EL)
  | blt (b : Blt) (es : EL)
  | isin (a : E) (ts : List Ty)
  | comp (elt : E) (tg : List Nat) (src : It) (c : E)
  | compX (elt : E) (tg : List Nat) (src : It)      -- one out of which a refusal may fly
  | alloc (e : E)
  | vals (i k j : Nat)                   -- [x[k] for x in d.values()], x and d at the slots i and j
  | pick (ps : List (Int × Int)) (a : E) -- {m: n, ..}[a]
  | fld (a : E) (f : String)
  | xfld (a : E) (f : String)            -- a field of a caught refusal
  | meth (c m : String) (f : Fn) (a : E) (es : EL)
  | make (c : String) (f : Fn) (es : EL)
  | bm (m : Bm) (a : E) (es : EL)
  | mkx (c : String) (es : EL)           -- an own refusal, made and held
inductive EL where
  | nil
  | cons (e : E) (es : EL)
/-- what a for walks -/
inductive It where
  | seq (a : E)
  | rg1 (a : E)
  | rg2 (a b : E)
  | enum (a : E)
  | zip (a b : E)
inductive S where
  | ex (e : E)
  | set (i : Nat) (e : E)
  | unp (is : List Nat) (e : E)          -- a, b = e
  | par (i j : Nat) (es : EL)            -- a, b = x, y
  | ixSet (o i v : E)
  | fldSet (o : E) (f : String) (v : E)
  | ret (e : E)
  | ite (c : E) (a b : SL)
  | for_ (tg : List Nat) (src : It) (body : SL) (kill : List Nat)
  | while_ (c : E) (body : SL) (kill : List Nat)
  | raise (c : String) (es : EL)
  | try_ (body : SL) (hs : HL)
  | pass
  | kill (is : List Nat)
  | never                                -- what is not come to
inductive SL where
  | nil
  | cons (s : S) (ss : SL)
/-- except clauses: the class, the name's slot, the suite -/
inductive HL where
  | nil
  | cons (c : String) (i : Option Nat) (suite : SL) (hs : HL)
inductive Fn where
  | mk (np ns : Nat) (keep : Bool) (body : SL)
end

/-! ### loops -/
abbrev Sg := List (Option D)
inductive Fl where
  | nx (σ : Sg)
  | rt (d : D)
  | xc (c : String) (fs : List D) (σ : Sg)
/-- a statement's expression, then the rest -/
def stE {α : Type} (σ : Sg) (r : R α) (f : α → Hh → R Fl) : R Fl := match r with
  | .ok a h => f a h
  | .ex c fs h => .ok (.xc c fs σ) h
  | .bad => .bad
@[simp] theorem stE_ok {α : Type} (σ : Sg) (a : α) (h : Hh) (f : α → Hh → R Fl) : stE σ (R.ok a h) f = f a h := rfl
@[simp] theorem stE_ex {α : Type} (σ : Sg) (c : String) (fs : List D) (h : Hh) (f : α → Hh → R Fl) : stE σ (R.ex (α := α) c fs h) f = .ok (.xc c fs σ) h := rfl
@[simp] theorem stE_bad {α : Type} (σ : Sg) (f : α → Hh → R Fl) : stE σ (R.bad (α := α)) f = .bad := rfl
@[simp] def killAll (σ : Sg) : List Nat → Sg
  | [] => σ
  | i :: is => killAll (σ.set i none) is
/-- targets take a value -/
@[simp] def setAll (σ : Sg) : List Nat → List D → Option Sg
  | [], [] => some σ
  | i :: is, d :: ds => setAll (σ.set i (some d)) is ds
  | _, _ => none
@[simp] def target (h : Hh) (tg : List Nat) (d : D) (σ : Sg) : Option Sg := match tg with
  | [i] => some (σ.set i (some d))
  | is => match d with
    | .tup ds => setAll σ is ds
    | _ => none
/-- lists that are to stand fast while a for walks -/
abbrev Wt := List (Nat × List D)
def watch (w : Wt) (h : Hh) : Prop := ∀ p ∈ w, getL h p.1 = some p.2
open Classical in
noncomputable def ifW {α : Type} (w : Wt) (h : Hh) (r : R α) : R α := if watch w h then r else .bad
/-- a for's turns over what stands fast -/
noncomputable def forL (w : Wt) (f : D → Sg → Hh → R Fl) : List D → Sg → Hh → R Fl
  | [], σ, h => ifW w h (.ok (.nx σ) h)
  | d :: ds, σ, h => ifW w h (match f d σ h with
    | .ok (.nx σ') h' => forL w f ds σ' h'
    | r => r)
noncomputable def compL (w : Wt) (f : D → Hh → R (Option D)) : List D → Hh → R (List D)
  | [], h => ifW w h (.ok [] h)
  | d :: ds, h => ifW w h ((f d h).bind fun o h' => (compL w f ds h').bind fun xs h'' => .ok (match o with | some x => x :: xs | none => xs) h'')
def R.noEx {α : Type} : R α → R α
  | .ok a h => .ok a h
  | _ => .bad
/-- what a for walks: a list's or a tuple's items; a list of ours is watched -/
def srcOf (h : Hh) : D → Option (List D × Wt)
  | .ref n => (getL h n).map fun ds => (ds, [(n, ds)])
  | d => (seqOf h d).map fun ds => (ds, [])
def whileN (c : Sg → Hh → R D) (b : Sg → Hh → R Fl) : Nat → Sg → Hh → R Fl
  | 0, _, _ => .bad
  | n + 1, σ, h => match c σ h with
    | .ok (.bl true) h' => match b σ h' with
      | .ok (.nx σ') h'' => whileN c b n σ' h''
      | r => r
    | .ok (.bl false) h' => .ok (.nx σ) h'
    | .ok _ _ => .bad
    | .ex x fs h' => .ok (.xc x fs σ) h'
    | .bad => .bad
open Classical in
noncomputable def whileL (c : Sg → Hh → R D) (b : Sg → Hh → R Fl) (σ : Sg) (h : Hh) : R Fl :=
  if e : ∃ n, whileN c b n σ h ≠ .bad then whileN c b (choose e) σ h else .bad

theorem whileN_mono (c : Sg → Hh → R D) (b : Sg → Hh → R Fl) : ∀ (n m : Nat) (σ : Sg) (h : Hh), n ≤ m → whileN c b n σ h ≠ .bad → whileN c b m σ h = whileN c b n σ h
  | 0, _, _, _, _, e => absurd rfl e
  | n + 1, 0, _, _, l, _ => absurd l (by omega)
  | n + 1, m + 1, σ, h, l, e => by
    unfold whileN at e ⊢
    cases hc : c σ h with
    | bad => rfl
    | ex x fs h' => rfl
    | ok d h' =>
      rw [hc] at e
      cases d with
      | bl k =>
        cases k with
        | false => rfl
        | true =>
          simp only at e ⊢
          cases hb : b σ h' with
          | bad => rfl
          | ex x fs h' => rfl
          | ok fl h'' =>
            rw [hb] at e
            cases fl with
            | rt d => rfl
            | xc _ _ _ => rfl
            | nx σ' => exact whileN_mono c b n m σ' h'' (by omega) e
      | _ => rfl
theorem whileL_of {c : Sg → Hh → R D} {b : Sg → Hh → R Fl} {σ : Sg} {h : Hh} {n : Nat} (e : whileN c b n σ h ≠ .bad) : whileL c b σ h = whileN c b n σ h := by
  have ex : ∃ n, whileN c b n σ h ≠ .bad := ⟨n, e⟩
  unfold whileL
  rw [dif_pos ex]
  have e2 := Classical.choose_spec ex
  rcases Nat.le_total n (Classical.choose ex) with l | l
  · exact whileN_mono c b _ _ σ h l e
  · exact (whileN_mono c b _ _ σ h l e2).symm
theorem whileL_ex {c : Sg → Hh → R D} {b : Sg → Hh → R Fl} {σ : Sg} {h : Hh} (e : whileL c b σ h ≠ .bad) : ∃ n, whileN c b n σ h ≠ .bad ∧ whileL c b σ h = whileN c b n σ h := by
  by_cases ex : ∃ n, whileN c b n σ h ≠ .bad
  · obtain ⟨n, q⟩ := ex
    exact ⟨n, q, whileL_of q⟩
  · unfold whileL at e
    rw [dif_neg ex] at e
    exact absurd rfl e
/-- one turn -/
theorem whileL_eq (c : Sg → Hh → R D) (b : Sg → Hh → R Fl) (σ : Sg) (h : Hh) : whileL c b σ h = match c σ h with
    | .ok (.bl true) h' => match b σ h' with
      | .ok (.nx σ') h'' => whileL c b σ' h''
      | r => r
    | .ok (.bl false) h' => .ok (.nx σ) h'
    | .ok _ _ => .bad
    | .ex x fs h' => .ok (.xc x fs σ) h'
    | .bad => .bad := by
  have one : ∀ n, whileN c b (n + 1) σ h ≠ .bad → whileL c b σ h = whileN c b (n + 1) σ h := fun n e => whileL_of e
  by_cases ex : ∃ n, whileN c b n σ h ≠ .bad
  · obtain ⟨n, e⟩ := ex
    cases n with
    | zero => exact absurd rfl e
    | succ n =>
      rw [one n e]
      unfold whileN at e ⊢
      cases hc : c σ h with
      | bad => rfl
      | ex x fs h' => rfl
      | ok d h' =>
        rw [hc] at e
        cases d with
        | bl k =>
          cases k with
          | false => rfl
          | true =>
            simp only at e ⊢
            cases hb : b σ h' with
            | bad => rfl
            | ex x fs h' => rfl
            | ok fl h'' =>
              rw [hb] at e
              cases fl with
              | rt d => rfl
              | xc _ _ _ => rfl
              | nx σ' => exact (whileL_of e).symm
        | _ => rfl
  · have nb : whileL c b σ h = .bad := by unfold whileL; rw [dif_neg ex]
    rw [nb]
    have z : ∀ n, whileN c b n σ h = .bad := fun n => by
      by_cases q : whileN c b n σ h = .bad
      · exact q
      · exact absurd ⟨n, q⟩ ex
    cases hc : c σ h with
    | bad => rfl
    | ex x fs h' =>
      have := z 1
      unfold whileN at this
      rw [hc] at this
      exact this.symm
    | ok d h' =>
      cases d with
      | bl k =>
        cases k with
        | false =>
          have := z 1
          unfold whileN at this
          rw [hc] at this
          exact this.symm
        | true =>
          simp only
          cases hb : b σ h' with
          | bad => rfl
          | ex x fs h'' =>
            have := z 1
            unfold whileN at this
            rw [hc] at this
            simp only [hb] at this
            exact this.symm
          | ok fl h'' =>
            cases fl with
            | rt d =>
              have := z 1
              unfold whileN at this
              rw [hc] at this
              simp only [hb] at this
              exact this.symm
            | xc _ _ _ =>
              have := z 1
              unfold whileN at this
              rw [hc] at this
              simp only [hb] at this
              exact this.symm
            | nx σ' =>
              simp only
              by_cases ex2 : ∃ n, whileN c b n σ' h'' ≠ .bad
              · obtain ⟨n, e⟩ := ex2
                have := z (n + 1)
                unfold whileN at this
                rw [hc] at this
                simp only [hb] at this
                exact absurd this e
              · unfold whileL
                rw [dif_neg ex2]
      | _ => rfl

/-! ### the evaluator -/
/-- what comes back of a call whose own objects begin at b: they go, a told list of plain things stays as one -/
def fin (keep : Bool) (b : Nat) (d : D) (h : Hh) : R D :=
  if keep then .ok d h
  else if d.und b then .ok d (h.take b)
  else match d with
    | .ref n => match getL h n with
      | some ds => if D.unds b ds then .ok (.lst ds) (h.take b) else .bad
      | none => .bad
    | _ => .bad
def getF (h : Hh) (n : Nat) (f : String) : Option D := match h[n]? with
  | some (.ins _ fs) => fs.lookup f
  | _ => none
def putF (f : String) (v : D) : List (String × D) → List (String × D)
  | [] => [(f, v)]
  | (g, w) :: r => if g == f then (g, v) :: r else (g, w) :: putF f v r
def setDk (l : List Nat) (h : Hh) (n : Nat) (k : Ky) (v : D) : R Unit := match getK h n with
  | some kvs => if stOk l n v && decide (kvs.length < sizeLine) then .ok () (h.set n (.dk (putD kvs k v))) else .bad
  | none => .bad
def setItem (l : List Nat) (h : Hh) (o i v : D) : R Unit := match o, i with
  | .ref n, .int k => match getL h n with
    | some xs => match ixAt xs.length k with
      | some j => if stOk l n v then .ok () (h.set n (.lst (xs.set j v))) else .bad
      | none => .bad
    | none => setDk l h n (.inl k) v
  | .ref n, .str s => setDk l h n (.inr s) v
  | _, _ => .bad
def setFld (l : List Nat) (h : Hh) (o : D) (f : String) (v : D) : R Unit := match o with
  | .ref n => match h[n]? with
    | some (.ins c fs) => if stOk l n v && decide (fs.length < 1000) then .ok () (h.set n (.ins c (putF f v fs))) else .bad
    | _ => .bad
  | _ => .bad
def enumD (xs : List D) : List D := (List.range xs.length).zip xs |>.map fun p => .tup [.int p.1, p.2]
def zipD (xs ys : List D) : List D := (xs.zip ys).map fun p => .tup [p.1, p.2]
/-- what is asked to be a truth -/
@[simp] def boolV {α : Type} (f : Bool → Hh → R α) : D → Hh → R α
  | .bl b, h => f b h
  | _, _ => .bad
@[simp] def optV {α : Type} (n : Bool) (f : Option Int → Hh → R α) (d : D) (h : Hh) : R α := match n, d with
  | true, _ => f none h
  | false, .int i => f (some i) h
  | _, _ => .bad
@[simp] def negV (h : Hh) : D → R D
  | .int i => .ok (.int (-i)) h
  | _ => .bad
@[simp] def isNon : D → Bool
  | .non => true
  | _ => false
def isBV (b : Bool) (h : Hh) : D → R D
  | .bl c => .ok (.bl (decide (c = b))) h
  | .non => .ok (.bl false) h
  | _ => .bad
def notBV (b : Bool) (h : Hh) : D → R D
  | .bl c => .ok (.bl (!decide (c = b))) h
  | .non => .ok (.bl true) h
  | _ => .bad
def ixV (h : Hh) (x y : D) : R D := match x, y with
  | .str s, .int i => match atD s.cps.toList i with
    | some c => if s.length ≤ sizeLine then .ok (.str ⟨#[c]⟩) h else .bad
    | none => .bad
  | x, .int i => match (seqOf h x).bind fun xs => atD xs i with
    | some d => .ok d h
    | none => .bad
  | _, _ => .bad
def slV (h : Hh) (x : D) (i j : Option Int) : R D := match x with
  | .tup xs => .ok (.tup (cut xs i j)) h
  | .str s => .bad
  | x => match listOf h x with
    | some xs => .ok (.lst (cut xs i j)) h
    | none => .bad
def revV (h : Hh) : D → R D
  | .tup xs => .ok (.tup xs.reverse) h
  | x => match listOf h x with
    | some xs => .ok (.lst xs.reverse) h
    | none => .bad
def isAny (h : Hh) (x : D) : List Ty → Option Bool
  | [] => some false
  | t :: ts => match isTy h x t with
    | some true => some true
    | some false => isAny h x ts
    | none => none
def isinV (ts : List Ty) (h : Hh) (x : D) : R D := match isAny h x ts with
  | some b => .ok (.bl b) h
  | none => .bad
def allocV (h : Hh) : D → R D
  | .lst ds => .ok (.ref h.length) (h ++ [.lst ds])
  | _ => .bad
def fldV (f : String) (h : Hh) : D → R D
  | .ref n => match getF h n f with
    | some d => .ok d h
    | none => .bad
  | _ => .bad
def xfldV (f : String) (h : Hh) : D → R D
  | .exc c fs => match ((excF c).zip fs).lookup f with
    | some d => .ok d h
    | none => .bad
  | _ => .bad
/-- the receiver is an instance of the class -/
def insV (c : String) (h : Hh) (r : R D) : D → R D
  | .ref n => match h[n]? with
    | some (.ins c' _) => if c' = c then r else .bad
    | _ => .bad
  | _ => .bad
def madeV (n : Nat) : D → Hh → R D
  | .non, h => .ok (.ref n) h
  | _, _ => .bad
@[simp] def varV (σ : Sg) (i : Nat) (h : Hh) : R D := match σ[i]? with
  | some (some d) => .ok d h
  | _ => .bad
@[simp] def someV {α : Type} (h : Hh) : Option α → R α
  | some x => .ok x h
  | none => .bad
/-- behind a turn: slots are forgotten -/
@[simp] def killV (is : List Nat) : Fl → Hh → R Fl
  | .nx σ, h => .ok (.nx (killAll σ is)) h
  | fl, h => .ok fl h
/-- an except clause's name takes the refusal; it goes behind the suite -/
@[simp] def asSet (i : Option Nat) (d : D) (σ : Sg) : Sg := match i with
  | some i => σ.set i (some d)
  | none => σ
@[simp] def asGone (i : Option Nat) (σ : Sg) : Sg := match i with
  | some i => σ.set i none
  | none => σ
@[simp] def suiteV (i : Option Nat) : Fl → Hh → R Fl
  | .nx σ, h => .ok (.nx (asGone i σ)) h
  | .rt d, h => .ok (.rt d) h
  | .xc _ _ _, _ => .bad
@[simp] def tryV (f : String → List D → Sg → Hh → R Fl) : Fl → Hh → R Fl
  | .nx σ, h => .ok (.nx σ) h
  | .rt d, h => .ok (.rt d) h
  | .xc c fs σ, h => f c fs σ h
@[simp] def bindT {α : Type} (h : Hh) (tg : List Nat) (d : D) (σ : Sg) (f : Sg → R α) : R α := match target h tg d σ with
  | some σ' => f σ'
  | none => .bad
def isTup : D → Bool
  | .tup _ => true
  | _ => false
/-- a loop's turn -/
def thenK (is : List Nat) (f : Sg → Hh → R Fl) (σ : Sg) (h : Hh) : R Fl := (f σ h).bind (killV is)
def turnK (tg is : List Nat) (f : Sg → Hh → R Fl) (d : D) (σ : Sg) (h : Hh) : R Fl := bindT h tg d σ fun σ' => (f σ' h).bind (killV is)
def itemK (tg : List Nat) (σ : Sg) (no : Bool) (fc fe : Sg → Hh → R D) (d : D) (h : Hh) : R (Option D) := bindT h tg d (killAll σ tg) fun σ' =>
  if no = true then (fe σ' h).bind fun x h => .ok (some x) h
  else (fc σ' h).bind (boolV fun k h => if k = true then (fe σ' h).bind fun x h => .ok (some x) h else .ok none h)
@[simp] def seqFl (f : Sg → Hh → R Fl) : Fl → Hh → R Fl
  | .nx σ, h => f σ h
  | fl, h => .ok fl h
def rgV (a b : D) (h : Hh) : R (List D × Wt) := match a, b with
  | .int i, .int j => if rgOk i j then .ok (rg i j, []) h else .bad
  | _, _ => .bad
@[simp] def isNo : E → Bool
  | .no => true
  | _ => false
@[simp] def endF (keep : Bool) (b : Nat) : R Fl → R D
  | .ok (.nx _) h => fin keep b .non h
  | .ok (.rt d) h => fin keep b d h
  | .ok (.xc c fs _) h => if keep then .ex c fs h else if D.unds b fs then .ex c fs (h.take b) else .bad
  | .ex _ _ _ => .bad
  | .bad => .bad
@[simp] def parV (i j : Nat) (σ : Sg) (h : Hh) : List D → R Fl
  | [x, y] => .ok (.nx ((σ.set i (some x)).set j (some y))) h
  | _ => .bad
@[simp] def unpV (is : List Nat) (σ : Sg) (h : Hh) (d : D) : R Sg := match seqOf h d with
  | some ds => someV h (setAll σ is ds)
  | none => .bad

mutual
noncomputable def evE (l : List Nat) : E → Sg → Hh → R D
  | .no, _, h => .ok .non h
  | .var i, σ, h => varV σ i h
  | .cst d, _, h => .ok d h
  | .glob _ d, _, h => .ok d h
  | .bop o a b, σ, h => (evE l a σ h).bind fun x h => (evE l b σ h).bind fun y h => bop o h x y
  | .neg a, σ, h => (evE l a σ h).bind fun x h => negV h x
  | .not a, σ, h => (evE l a σ h).bind (boolV fun b h => .ok (.bl (!b)) h)
  | .and a b, σ, h => (evE l a σ h).bind (boolV fun x h => if x = true then evE l b σ h else .ok (.bl false) h)
  | .or a b, σ, h => (evE l a σ h).bind (boolV fun x h => if x = true then .ok (.bl true) h else evE l b σ h)
  | .cmp o a b, σ, h => (evE l a σ h).bind fun x h => (evE l b σ h).bind fun y h => cop o h x y
  | .chain o p a b c, σ, h => (evE l a σ h).bind fun x h => (evE l b σ h).bind fun y h => (cop o h x y).bind (boolV fun k h =>
      if k = true then (evE l c σ h).bind fun z h => cop p h y z else .ok (.bl false) h)
  | .chain3 o p q a b c d, σ, h => (evE l a σ h).bind fun x h => (evE l b σ h).bind fun y h => (cop o h x y).bind (boolV fun k h =>
      if k = true then (evE l c σ h).bind fun z h => (cop p h y z).bind (boolV fun k h => if k = true then (evE l d σ h).bind fun w h => cop q h z w else .ok (.bl false) h) else .ok (.bl false) h)
  | .isN a, σ, h => (evE l a σ h).bind fun x h => .ok (.bl (isNon x)) h
  | .notN a, σ, h => (evE l a σ h).bind fun x h => .ok (.bl (!isNon x)) h
  | .isB a b, σ, h => (evE l a σ h).bind fun x h => isBV b h x
  | .notB a b, σ, h => (evE l a σ h).bind fun x h => notBV b h x
  | .ite c a b, σ, h => (evE l c σ h).bind (boolV fun k h => if k = true then evE l a σ h else evE l b σ h)
  | .tup es, σ, h => (evL l es σ h).bind fun ds h => if ds.length ≤ sizeLine then .ok (.tup ds) h else .bad
  | .lst es, σ, h => (evL l es σ h).bind fun ds h => if ds.length ≤ sizeLine then .ok (.lst ds) h else .bad
  | .ix a b, σ, h => (evE l a σ h).bind fun x h => (evE l b σ h).bind fun y h => ixV h x y
  | .sl a lo hi, σ, h => (evE l a σ h).bind fun x h => (evE l lo σ h).bind (optV (isNo lo) fun i h => (evE l hi σ h).bind (optV (isNo hi) fun j h => slV h x i j))
  | .rev a, σ, h => (evE l a σ h).bind fun x h => revV h x
  | .call _ f es, σ, h => (evL l es σ h).bind fun ds h => callF l f ds h
  | .blt b es, σ, h => (evL l es σ h).bind fun ds h => blt b h ds
  | .isin a ts, σ, h => (evE l a σ h).bind fun x h => isinV ts h x
  | .comp e tg src c, σ, h => (evI l src σ h).bind fun xw h => (compL xw.2 (itemK tg σ (isNo c) (evE l c) (evE l e)) xw.1 h).noEx.bind fun ds h => if ds.length < sizeLine then .ok (.lst ds) h else .bad
  | .compX e tg src, σ, h => (evI l src σ h).bind fun xw h => if xw.1.length < sizeLine then (compL xw.2 (itemK tg σ true (fun _ h => .ok .non h) (evE l e)) xw.1 h).bind fun ds h => .ok (.lst ds) h else .bad
  | .alloc e, σ, h => (evE l e σ h).bind fun x h => allocV h x
  | .vals i k j, σ, h => (varV σ j h).bind fun x h => if i < σ.length then valsV k h x else .bad
  | .pick ps a, σ, h => (evE l a σ h).bind fun x h => pickV ps h x
  | .fld a f, σ, h => (evE l a σ h).bind fun x h => fldV f h x
  | .xfld a f, σ, h => (evE l a σ h).bind fun x h => xfldV f h x
  | .meth c _ f a es, σ, h => (evE l a σ h).bind fun x h => insV c h ((evL l es σ h).bind fun ds h => callF l f (x :: ds) h) x
  | .make c f es, σ, h => (evL l es σ h).bind fun ds h => (callF l f (.ref h.length :: ds) (h ++ [.ins c []])).bind (madeV h.length)
  | .mkx c es, σ, h => (evL l es σ h).bind fun ds h => if ds.length = (excF c).length then .ok (.exc c ds) h else .bad
  | .bm m a es, σ, h => (evE l a σ h).bind fun x h => if recv (bmTy m) h x = true then (evL l es σ h).bind fun ds h => bm m l h x ds else .bad
noncomputable def evL (l : List Nat) : EL → Sg → Hh → R (List D)
  | .nil, _, h => .ok [] h
  | .cons e es, σ, h => (evE l e σ h).bind fun x h => (evL l es σ h).bind fun xs h => .ok (x :: xs) h
noncomputable def evI (l : List Nat) : It → Sg → Hh → R (List D × Wt)
  | .seq a, σ, h => (evE l a σ h).bind fun x h => someV h (srcOf h x)
  | .rg1 a, σ, h => (evE l a σ h).bind fun x h => rgV (.int 0) x h
  | .rg2 a b, σ, h => (evE l a σ h).bind fun x h => (evE l b σ h).bind fun y h => rgV x y h
  | .enum a, σ, h => (evE l a σ h).bind fun x h => (someV h (srcOf h x)).bind fun xw h => .ok (enumD xw.1, xw.2) h
  | .zip a b, σ, h => (evE l a σ h).bind fun x h => (evE l b σ h).bind fun y h => if isTup x = isTup y then (someV h (srcOf h x)).bind fun xw h => (someV h (srcOf h y)).bind fun yw h => .ok (zipD xw.1 yw.1, xw.2 ++ yw.2) h else .bad
noncomputable def exS (l : List Nat) : S → Sg → Hh → R Fl
  | .ex e, σ, h => stE σ (evE l e σ h) fun _ h => .ok (.nx σ) h
  | .set i e, σ, h => stE σ (evE l e σ h) fun x h => .ok (.nx (σ.set i (some x))) h
  | .unp is e, σ, h => stE σ (evE l e σ h) fun x h => stE σ (unpV is σ h x) fun σ' h => .ok (.nx σ') h
  | .par i j es, σ, h => stE σ (evL l es σ h) fun ds h => parV i j σ h ds
  | .ixSet o i v, σ, h => stE σ (evE l v σ h) fun z h => stE σ (evE l o σ h) fun x h => stE σ (evE l i σ h) fun y h => stE σ (setItem l h x y z) fun _ h => .ok (.nx σ) h
  | .fldSet o f v, σ, h => stE σ (evE l v σ h) fun z h => stE σ (evE l o σ h) fun x h => stE σ (setFld l h x f z) fun _ h => .ok (.nx σ) h
  | .ret e, σ, h => stE σ (evE l e σ h) fun x h => .ok (.rt x) h
  | .ite c a b, σ, h => stE σ (evE l c σ h) (boolV fun k h => if k = true then exL l a σ h else exL l b σ h)
  | .for_ tg src body kill, σ, h => stE σ (evI l src σ h) fun xw h => forL xw.2 (turnK tg kill (exL l body)) xw.1 (killAll σ kill) h
  | .while_ c body kill, σ, h => whileL (evE l c) (thenK kill (exL l body)) (killAll σ kill) h
  | .raise c es, σ, h => stE σ (evL l es σ h) fun ds h => if ds.length = (excF c).length then .ok (.xc c ds σ) h else .bad
  | .try_ body hs, σ, h => (exL l body σ h).bind (tryV (exH l hs))
  | .pass, σ, h => .ok (.nx σ) h
  | .kill is, σ, h => .ok (.nx (killAll σ is)) h
  | .never, _, _ => .bad
noncomputable def exL (l : List Nat) : SL → Sg → Hh → R Fl
  | .nil, σ, h => .ok (.nx σ) h
  | .cons s ss, σ, h => (exS l s σ h).bind (seqFl fun σ' h' => exL l ss σ' h')
noncomputable def exH (l : List Nat) : HL → String → List D → Sg → Hh → R Fl
  | .nil, c, fs, σ, h => .ok (.xc c fs σ) h
  | .cons c' i suite hs, c, fs, σ, h => if excSub c c' = true then (exL l suite (asSet i (.exc c fs) σ) h).bind (suiteV i) else exH l hs c fs σ h
noncomputable def callF (l : List Nat) : Fn → List D → Hh → R D
  | .mk np ns keep body, ds, h => if ds.length = np ∧ np ≤ ns then
      endF keep h.length (exL (if keep then l else h.length :: l) body (ds.map some ++ List.replicate (ns - np) none) h)
    else .bad
end
end Mp

set_option maxRecDepth 100000
/-! Mp2a: how values and the small heap are borne by the machine's heap. -/
namespace Mp
open PySem PySem.Spec PyProof.Rows L2

abbrev Ads := Addr → Prop
/-- a tuple of ours, or of the module's -/
def Tp (K : PySem.W.Frag) (H : Hp) (a : Addr) (xs : List V) : Prop := H a = some (.tup xs) ∨
  ∃ (o : Obj) (its : Array Value) (n : Nat), K.lookup a = some o ∧ o.cls = .type "tuple" ∧ o.data = .seq its n ∧ its.size ≤ sizeLine ∧ Vals xs its.toList
/-- the script -/
def Sc (K : PySem.W.Frag) (H : Hp) (a : Addr) (xs : List V) : Prop := (∃ o, H a = some (.frz o (.lst xs))) ∨
  ∃ (o : Obj) (its : Array Value) (n : Nat), K.lookup a = some o ∧ o.cls = .type "list" ∧ o.dict = none ∧ o.data = .seq its n ∧ its.size ≤ sizeLine ∧ Vals xs its.toList
theorem Tp.sq {K : PySem.W.Frag} {H : Hp} {a : Addr} {xs : List V} (h : Tp K H a xs) : SqT K H a xs := by
  rcases h with h | h
  · exact .inl (.inl h)
  · exact .inr h
theorem Sc.sq {K : PySem.W.Frag} {H : Hp} {a : Addr} {xs : List V} (h : Sc K H a xs) : SqL K H a xs := by
  rcases h with h | h
  · exact .inl (.inr h)
  · exact .inr h
/-- an exception's dict, as it is stored -/
def xdl (c : String) (vs : List V) : List (Str × V) := (((excF c).map Str.ofString).zip vs).reverse
/-- a caught exception, as it lies -/
def exk (a C : Addr) (d : Option Addr) : HO := .ext fun h => ∃ (o : Obj) (vs : Array Value), h.get? a = some o ∧ o.cls = .ref C ∧ o.dict = d ∧ o.data = .fields vs
/-- the class of that name -/
def ClsAt (K : PySem.W.Frag) (c : String) (C : Addr) : Prop := PySem.W.nsIn K mainGlobals (Str.ofString c) = some (some (.ref C))
/-- what the written part says of an own refusal's class (of the base, too) -/
def PaceAt (K : PySem.W.Frag) (CP : Addr) : Prop := ClsAt K "PaceError" CP ∧ ∃ cd, PySem.W.clsIn K CP = some cd ∧ cd.name = Str.ofString "PaceError"
structure ExAt (K : PySem.W.Frag) (c : String) (C : Addr) : Prop where
  at_ : ClsAt K c C
  lk : ∃ q N bs bm sn sub ab col dd k0 k1 k2 k3 k5, K.lookup C = some (excClassObj (Str.ofString c) q C N bs bm true sn sub ab col dd k0 k1 k2 k3 k5 "ValueError.__new__") ∧
    ((c = "PaceError" ∧ bm = PySem.HandSPX.veTail) ∨ (c ≠ "PaceError" ∧ ∃ CP, PaceAt K CP ∧ bm = .ref CP :: PySem.HandSPX.veTail))
  nb : (above.contains c && c != "PaceError") = false
  kp : PySem.W.keepIn K (.ref C) = true
  sa : PySem.W.findIn K (.ref C) "__setattr__" = some (some (.builtin "object.__setattr__"))
  ga : PySem.W.findIn K (.ref C) "__getattribute__" = some (some (.builtin "BaseException.__getattribute__"))
  gg : PySem.W.findIn K (.ref C) "__getattr__" = some none
  ha : PySem.W.findIn K (.ref C) "__class__" = some (some (.builtin "object.__class__"))
  hn : PySem.W.specialIn K (.builtin "object.__class__") "__get__" = some (some (.builtin "getset_descriptor.__get__"))
  ht : PySem.W.takesIn K (.builtin "object.__class__") = some true
  nf : ∀ f ∈ excF c, PySem.W.findIn K (.ref C) (Str.ofString f) = some none
section
variable (K : PySem.W.Frag) (φ : List Addr) (χ : Ads) (H : Hp)
mutual
inductive RV : D → V → Prop
  | non : RV .non .non
  | bl (b : Bool) : RV (.bl b) (.bl b)
  | int (i : Int) : RV (.int i) (.int i)
  | str (s : Str) : RV (.str s) (.str s)
  | tup {a : Addr} {vs : List V} {ds : List D} : Tp K H a vs → RVs ds vs → RV (.tup ds) (.ref a)
  | lst {a : Addr} {vs : List V} {ds : List D} : ¬ χ a → H a = some (.lst vs) → RVs ds vs → RV (.lst ds) (.ref a)
  | ref {n : Nat} {a : Addr} : φ[n]? = some a → RV (.ref n) (.ref a)
  | scr {a : Addr} {ns : List Int} : Sc K H a (ns.map V.int) → RV (.scr ns) (.ref a)
  | exc0 {a C : Addr} {c : String} : ExAt K c C → c ≠ "PaceError" → ¬ χ a → H a = some (exk a C none) → RV (.exc c []) (.ref a)
  | exc {a C dd : Addr} {c : String} {fs : List D} {vs : List V} : ExAt K c C → c ≠ "PaceError" → ¬ χ a → H a = some (exk a C (some dd)) → ¬ χ dd → H dd = some (.xd (xdl c vs)) → vs.length = (excF c).length → RVs fs vs → RV (.exc c fs) (.ref a)
inductive RVs : List D → List V → Prop
  | nil : RVs [] []
  | cons {d : D} {v : V} {ds : List D} {vs : List V} : RV d v → RVs ds vs → RVs (d :: ds) (v :: vs)
end
end
/-- what an object of the small heap is -/
inductive OV (K : PySem.W.Frag) (mg : Str → Option Value) (φ : List Addr) (χ : Ads) (H : Hp) : Ob → Addr → Prop
  | lst {ds : List D} {a : Addr} {vs : List V} : H a = some (.lst vs) → RVs K φ χ H ds vs → OV K mg φ χ H (.lst ds) a
  | dk {kvs : List (Ky × D)} {a : Addr} {ws : List (L2.Key × V)} : H a = some (.dK ws) → ws.map (·.1) = kvs.map (·.1) → RVs K φ χ H (kvs.map (·.2)) (ws.map (·.2)) → OV K mg φ χ H (.dk kvs) a
  | ins {c : String} {fs : List (String × D)} {a C dx : Addr} {gs : List (Str × V)} : mg (Str.ofString c) = some (.ref C) → H a = some (.ins C dx gs) → gs.map (·.1) = fs.map (fun p => Str.ofString p.1) → RVs K φ χ H (fs.map (·.2)) (gs.map (·.2)) → OV K mg φ χ H (.ins c fs) a
/-- what it holds is below b -/
def Ob.und (b : Nat) : Ob → Prop
  | .lst ds => D.unds b ds = true
  | .ins _ fs => ∀ p ∈ fs, p.2.und b = true
  | .dk kvs => ∀ p ∈ kvs, p.2.und b = true
  | .dt kvs => ∀ p ∈ kvs, p.2.und b = true
structure HR (K : PySem.W.Frag) (mg : Str → Option Value) (φ : List Addr) (χ : Ads) (H : Hp) (l : List Nat) (h : Hh) : Prop where
  len : φ.length = h.length
  nd : φ.Nodup
  sub : ∀ a ∈ φ, χ a
  ob : ∀ (n : Nat) (a : Addr) (o : Ob), φ[n]? = some a → h[n]? = some o → OV K mg φ χ H o a
  lim : ∀ b ∈ l, ∀ (n : Nat) (o : Ob), n < b → h[n]? = some o → o.und b
  top : ∀ b ∈ l, b ≤ h.length
  ch : ∀ a, χ a → H a ≠ none
/-- a later state, for values -/
structure ExtW (φ : List Addr) (χ : Ads) (H : Hp) (φ' : List Addr) (χ' : Ads) (H' : Hp) : Prop where
  pre : ∃ r, φ' = φ ++ r
  sub : ∀ a, χ a → χ' a
  new : ∀ a, χ' a → ¬ χ a → H a = none
  keep : ∀ a o, ¬ χ a → H a = some o → H' a = some o
  tups : ∀ a xs, H a = some (.tup xs) → H' a = some (.tup xs)
  frl : ∀ a o xs, H a = some (.frz o (.lst xs)) → H' a = some (.frz o (.lst xs))
/-- a later state -/
structure Ext (φ : List Addr) (χ : Ads) (H : Hp) (φ' : List Addr) (χ' : Ads) (H' : Hp) : Prop extends ExtW φ χ H φ' χ' H' where
  kp : ∀ a o, a ∉ φ → H a = some o → H' a = some o
  fr : ∀ a ∈ φ', a ∉ φ → H a = none
section
variable {K : PySem.W.Frag} {mg : Str → Option Value} {φ φ' φ1 φ2 : List Addr} {χ χ' χ1 χ2 : Ads} {H H' H1 H2 : Hp} {l : List Nat} {h h' : Hh}
theorem ExtW.refl : ExtW φ χ H φ χ H := ⟨⟨[], by simp⟩, fun _ h => h, fun _ h n => absurd h n, fun _ _ _ h => h, fun _ _ h => h, fun _ _ _ h => h⟩
theorem Ext.refl : Ext φ χ H φ χ H := ⟨.refl, fun _ _ _ h => h, fun _ h n => absurd h n⟩
theorem ExtW.trans (a : ExtW φ χ H φ1 χ1 H1) (b : ExtW φ1 χ1 H1 φ2 χ2 H2) : ExtW φ χ H φ2 χ2 H2 := by
  refine ⟨?_, fun x hx => b.sub x (a.sub x hx), fun x hx hn => ?_, fun x o hn ho => ?_, fun x xs h => b.tups x xs (a.tups x xs h), fun x o xs h => b.frl x o xs (a.frl x o xs h)⟩
  · obtain ⟨r, e⟩ := a.pre
    obtain ⟨r2, e2⟩ := b.pre
    exact ⟨r ++ r2, by rw [e2, e, List.append_assoc]⟩
  · by_cases h1 : χ1 x
    · exact a.new x h1 hn
    · have q := b.new x hx h1
      cases e : H x with
      | none => rfl
      | some o => rw [a.keep x o hn e] at q; cases q
  · have h1 := a.keep x o hn ho
    refine b.keep x o (fun h => ?_) h1
    rw [a.new x h hn] at ho; cases ho
theorem Ext.trans (a : Ext φ χ H φ1 χ1 H1) (b : Ext φ1 χ1 H1 φ2 χ2 H2) : Ext φ χ H φ2 χ2 H2 := by
  have nin : ∀ x o, x ∉ φ → H x = some o → x ∉ φ1 := fun x o hn ho h1 => by rw [a.fr x h1 hn] at ho; cases ho
  refine ⟨a.toExtW.trans b.toExtW, fun x o hn ho => b.kp x o (nin x o hn ho) (a.kp x o hn ho), fun x hx hn => ?_⟩
  by_cases h1 : x ∈ φ1
  · exact a.fr x h1 hn
  · have q := b.fr x hx h1
    cases e : H x with
    | none => rfl
    | some o => rw [a.kp x o hn e] at q; cases q
/-- what stands and is not ours is not ours later -/
theorem ExtW.out (x : ExtW φ χ H φ' χ' H') {a : Addr} {o : HO} (hn : ¬ χ a) (ho : H a = some o) : ¬ χ' a := fun h => by
  rw [x.new a h hn] at ho; cases ho
theorem ExtW.at (x : ExtW φ χ H φ' χ' H') {n : Nat} {a : Addr} (h : φ[n]? = some a) : φ'[n]? = some a := by
  obtain ⟨r, e⟩ := x.pre
  rw [e, List.getElem?_append_left (List.getElem?_eq_some_iff.mp h).1]
  exact h
theorem Tp.extW (x : ExtW φ χ H φ' χ' H') {a : Addr} {vs : List V} (h : Tp K H a vs) : Tp K H' a vs := by
  rcases h with h | h
  · exact .inl (x.tups _ _ h)
  · exact .inr h
theorem Sc.extW (x : ExtW φ χ H φ' χ' H') {a : Addr} {vs : List V} (h : Sc K H a vs) : Sc K H' a vs := by
  rcases h with ⟨o, h⟩ | h
  · exact .inl ⟨o, x.frl _ _ _ h⟩
  · exact .inr h
mutual
theorem RV.extW (x : ExtW φ χ H φ' χ' H') : ∀ {d : D} {v : V}, RV K φ χ H d v → RV K φ' χ' H' d v
  | _, _, .non => .non
  | _, _, .bl b => .bl b
  | _, _, .int i => .int i
  | _, _, .str s => .str s
  | _, _, .tup t r => .tup (t.extW x) (RVs.extW x r)
  | _, _, .lst n t r => .lst (x.out n t) (x.keep _ _ n t) (RVs.extW x r)
  | _, _, .ref e => .ref (x.at e)
  | _, _, .scr s => .scr (s.extW x)
  | _, _, .exc0 c z n h => .exc0 c z (x.out n h) (x.keep _ _ n h)
  | _, _, .exc c z n h n2 h2 l r => .exc c z (x.out n h) (x.keep _ _ n h) (x.out n2 h2) (x.keep _ _ n2 h2) l (RVs.extW x r)
theorem RVs.extW (x : ExtW φ χ H φ' χ' H') : ∀ {d : List D} {v : List V}, RVs K φ χ H d v → RVs K φ' χ' H' d v
  | _, _, .nil => .nil
  | _, _, .cons r t => .cons (RV.extW x r) (RVs.extW x t)
end
theorem Tp.ext (x : Ext φ χ H φ' χ' H') {a : Addr} {vs : List V} (h : Tp K H a vs) : Tp K H' a vs := h.extW x.toExtW
theorem Sc.ext (x : Ext φ χ H φ' χ' H') {a : Addr} {vs : List V} (h : Sc K H a vs) : Sc K H' a vs := h.extW x.toExtW
theorem RV.ext (x : Ext φ χ H φ' χ' H') {d : D} {v : V} (r : RV K φ χ H d v) : RV K φ' χ' H' d v := r.extW x.toExtW
theorem RVs.ext (x : Ext φ χ H φ' χ' H') {d : List D} {v : List V} (r : RVs K φ χ H d v) : RVs K φ' χ' H' d v := r.extW x.toExtW
theorem Ext.out (x : Ext φ χ H φ' χ' H') {a : Addr} {o : HO} (hn : ¬ χ a) (ho : H a = some o) : ¬ χ' a := x.toExtW.out hn ho
theorem Ext.at (x : Ext φ χ H φ' χ' H') {n : Nat} {a : Addr} (h : φ[n]? = some a) : φ'[n]? = some a := x.toExtW.at h
/-! less is ours -/
mutual
theorem RV.less (s : ∀ a, χ' a → χ a) : ∀ {d : D} {v : V}, RV K φ χ H d v → RV K φ χ' H d v
  | _, _, .non => .non
  | _, _, .bl b => .bl b
  | _, _, .int i => .int i
  | _, _, .str s => .str s
  | _, _, .tup t r => .tup t (RVs.less s r)
  | _, _, .lst n t r => .lst (fun q => n (s _ q)) t (RVs.less s r)
  | _, _, .ref e => .ref e
  | _, _, .scr s => .scr s
  | _, _, .exc0 c z n h => .exc0 c z (fun q => n (s _ q)) h
  | _, _, .exc c z n h n2 h2 l r => .exc c z (fun q => n (s _ q)) h (fun q => n2 (s _ q)) h2 l (RVs.less s r)
theorem RVs.less (s : ∀ a, χ' a → χ a) : ∀ {d : List D} {v : List V}, RVs K φ χ H d v → RVs K φ χ' H d v
  | _, _, .nil => .nil
  | _, _, .cons r t => .cons (RV.less s r) (RVs.less s t)
end
/-! cut to older objects -/
mutual
theorem RV.old {b : Nat} (hb : φ'.take b = φ.take b) : ∀ {d : D} {v : V}, RV K φ χ H d v → d.und b = true → RV K φ' χ H d v
  | _, _, .non, _ => .non
  | _, _, .bl b, _ => .bl b
  | _, _, .int i, _ => .int i
  | _, _, .str s, _ => .str s
  | _, _, .tup t r, u => .tup t (RVs.old hb r (by simpa [D.und] using u))
  | _, _, .lst n t r, u => .lst n t (RVs.old hb r (by simpa [D.und] using u))
  | _, _, .ref (n := n) (a := a) e, u => .ref (by
      have hn : n < b := by simpa [D.und] using u
      have e1 : (φ.take b)[n]? = some a := by rw [List.getElem?_take_of_lt hn]; exact e
      rw [← hb, List.getElem?_take_of_lt hn] at e1
      exact e1)
  | _, _, .scr s, _ => .scr s
  | _, _, .exc0 c z n h, _ => .exc0 c z n h
  | _, _, .exc c z n h n2 h2 l r, u => .exc c z n h n2 h2 l (RVs.old hb r (by simpa [D.und] using u))
theorem RVs.old {b : Nat} (hb : φ'.take b = φ.take b) : ∀ {d : List D} {v : List V}, RVs K φ χ H d v → D.unds b d = true → RVs K φ' χ H d v
  | _, _, .nil, _ => .nil
  | _, _, .cons (d := d) (ds := ds) r t, u => by
    have u' : d.und b = true ∧ D.unds b ds = true := by simpa [D.unds] using u
    exact .cons (RV.old hb r u'.1) (RVs.old hb t u'.2)
end
mutual
/-- no ref beyond the heap -/
theorem RV.und : ∀ {d : D} {v : V}, RV K φ χ H d v → d.und φ.length = true
  | _, _, .non => by simp [D.und]
  | _, _, .bl b => by simp [D.und]
  | _, _, .int i => by simp [D.und]
  | _, _, .str s => by simp [D.und]
  | _, _, .tup t r => by simpa [D.und] using RVs.und r
  | _, _, .lst n t r => by simpa [D.und] using RVs.und r
  | _, _, .ref e => by simpa [D.und] using (List.getElem?_eq_some_iff.mp e).1
  | _, _, .scr s => by simp [D.und]
  | _, _, .exc0 c z n h => by simp [D.und, D.unds]
  | _, _, .exc c z n h n2 h2 l r => by simpa [D.und] using RVs.und r
theorem RVs.und : ∀ {d : List D} {v : List V}, RVs K φ χ H d v → D.unds φ.length d = true
  | _, _, .nil => by simp [D.unds]
  | _, _, .cons r t => by simpa [D.unds] using ⟨RV.und r, RVs.und t⟩
end
theorem OV.extW (x : ExtW φ χ H φ' χ' H') {o : Ob} {a : Addr} (n : H' a = H a) (h : OV K mg φ χ H o a) : OV K mg φ' χ' H' o a := by
  cases h with
  | lst e r => exact .lst (by rw [n]; exact e) (r.extW x)
  | dk e1 e2 e3 => exact .dk (by rw [n]; exact e1) e2 (e3.extW x)
  | ins e1 e2 e3 e4 => exact .ins e1 (by rw [n]; exact e2) e3 (e4.extW x)
theorem OV.ext (x : Ext φ χ H φ' χ' H') {o : Ob} {a : Addr} (n : H' a = H a) (h : OV K mg φ χ H o a) : OV K mg φ' χ' H' o a := h.extW x.toExtW n
theorem OV.less (s : ∀ a, χ' a → χ a) {o : Ob} {a : Addr} (h : OV K mg φ χ H o a) : OV K mg φ χ' H o a := by
  cases h with
  | lst e r => exact .lst e (r.less s)
  | dk e1 e2 e3 => exact .dk e1 e2 (e3.less s)
  | ins e1 e2 e3 e4 => exact .ins e1 e2 e3 (e4.less s)
theorem HR.less (s : ∀ a, χ' a → χ a) (hs : ∀ a ∈ φ, χ' a) (r : HR K mg φ χ H l h) : HR K mg φ χ' H l h :=
  ⟨r.len, r.nd, hs, fun n a o e1 e2 => (r.ob n a o e1 e2).less s, r.lim, r.top, fun a q => r.ch a (s a q)⟩
theorem RVs.length {ds : List D} {vs : List V} (r : RVs K φ χ H ds vs) : ds.length = vs.length := by
  induction vs generalizing ds with
  | nil => cases r; rfl
  | cons v vs ih => cases r with | cons a b => simp [ih b]
theorem RVs.get {ds : List D} {vs : List V} (r : RVs K φ χ H ds vs) {i : Nat} {d : D} (e : ds[i]? = some d) : ∃ v, vs[i]? = some v ∧ RV K φ χ H d v := by
  induction vs generalizing ds i with
  | nil => cases r; simp at e
  | cons v vs ih =>
    cases r with
    | cons a b =>
      cases i with
      | zero => simp at e; subst e; exact ⟨v, by simp, a⟩
      | succ i => simpa using ih b (by simpa using e)
theorem RVs.append : ∀ {ds es : List D} {vs ws : List V}, RVs K φ χ H ds vs → RVs K φ χ H es ws → RVs K φ χ H (ds ++ es) (vs ++ ws)
  | _, _, _, _, .nil, s => s
  | _, _, _, _, .cons r t, s => .cons r (RVs.append t s)
theorem RVs.set {d : D} {v : V} (r : RV K φ χ H d v) : ∀ {ds : List D} {vs : List V} (i : Nat), RVs K φ χ H ds vs → RVs K φ χ H (ds.set i d) (vs.set i v)
  | _, _, _, .nil => .nil
  | _, _, 0, .cons _ t => .cons r t
  | _, _, i + 1, .cons q t => .cons q (RVs.set r i t)
theorem RVs.take : ∀ {ds : List D} {vs : List V} (n : Nat), RVs K φ χ H ds vs → RVs K φ χ H (ds.take n) (vs.take n)
  | _, _, 0, _ => by simpa using RVs.nil
  | _, _, _ + 1, .nil => .nil
  | _, _, n + 1, .cons r t => .cons r (RVs.take n t)
theorem RVs.drop : ∀ {ds : List D} {vs : List V} (n : Nat), RVs K φ χ H ds vs → RVs K φ χ H (ds.drop n) (vs.drop n)
  | _, _, 0, r => r
  | _, _, _ + 1, .nil => .nil
  | _, _, n + 1, .cons _ t => RVs.drop n t
theorem RVs.rev : ∀ {ds : List D} {vs : List V}, RVs K φ χ H ds vs → RVs K φ χ H ds.reverse vs.reverse
  | _, _, .nil => .nil
  | _, _, .cons r t => by
    rw [List.reverse_cons, List.reverse_cons]
    exact (RVs.rev t).append (.cons r .nil)
theorem RVs.erase : ∀ {ds : List D} {vs : List V} (i : Nat), RVs K φ χ H ds vs → RVs K φ χ H (ds.eraseIdx i) (vs.eraseIdx i)
  | _, _, _, .nil => .nil
  | _, _, 0, .cons r t => t
  | _, _, n + 1, .cons r t => .cons r (RVs.erase n t)
theorem RVs.ints : ∀ (ns : List Int), RVs K φ χ H (ns.map D.int) (ns.map V.int)
  | [] => .nil
  | n :: ns => .cons (.int n) (RVs.ints ns)

/-- the slots -/
structure RS (K : PySem.W.Frag) (φ : List Addr) (χ : Ads) (H : Hp) (σ : Sg) (τ : L2.St) : Prop where
  len : σ.length = τ.length
  at_ : ∀ (i : Nat) (d : D), σ[i]? = some (some d) → ∃ v, τ[i]? = some (some v) ∧ RV K φ χ H d v
theorem RS.extW (x : ExtW φ χ H φ' χ' H') {σ : Sg} {τ : L2.St} (r : RS K φ χ H σ τ) : RS K φ' χ' H' σ τ := ⟨r.len, fun i d e => by
  obtain ⟨v, q1, q2⟩ := r.at_ i d e
  exact ⟨v, q1, q2.extW x⟩⟩
theorem RS.ext (x : Ext φ χ H φ' χ' H') {σ : Sg} {τ : L2.St} (r : RS K φ χ H σ τ) : RS K φ' χ' H' σ τ := r.extW x.toExtW
theorem RS.set {σ : Sg} {τ : L2.St} (r : RS K φ χ H σ τ) (i : Nat) {d : D} {v : V} (q : RV K φ χ H d v) : RS K φ χ H (σ.set i (some d)) (τ.set i (some v)) := by
  refine ⟨by simp [r.len], fun j e he => ?_⟩
  by_cases hj : i = j
  · subst hj
    by_cases hl : i < σ.length
    · rw [List.getElem?_set_self hl] at he
      cases he
      exact ⟨v, List.getElem?_set_self (by rw [← r.len]; exact hl), q⟩
    · rw [List.getElem?_eq_none (by simpa using hl)] at he; cases he
  · rw [List.getElem?_set_ne hj] at he ⊢
    exact r.at_ j e he
theorem RS.none {σ : Sg} {τ : L2.St} (r : RS K φ χ H σ τ) (i : Nat) : RS K φ χ H (σ.set i none) τ := by
  refine ⟨by simp [r.len], fun j e he => ?_⟩
  by_cases hj : i = j
  · subst hj
    by_cases hl : i < σ.length
    · rw [List.getElem?_set_self hl] at he; cases he
    · rw [List.getElem?_eq_none (by simpa using hl)] at he; cases he
  · rw [List.getElem?_set_ne hj] at he
    exact r.at_ j e he
theorem RS.kill {τ : L2.St} : ∀ (is : List Nat) {σ : Sg}, RS K φ χ H σ τ → RS K φ χ H (killAll σ is) τ
  | [], _, r => r
  | i :: is, _, r => RS.kill is (r.none i)
end
end Mp

set_option maxRecDepth 100000
/-! Mp2b: readings of expressions. -/
namespace Mp
open PySem PySem.Spec PyProof.Rows L2

/-- an expression that makes a new list (or gives something else) -/
def Blt.fresh : Blt → Bool
  | .list => true | .listR1 => true | .listR2 => true | .sorted => true | .sortedSet => true | .listRev => true | .sortedD => true
  | _ => false
def E.fresh : E → Bool
  | .lst _ => true
  | .comp _ _ _ _ => true
  | .compX _ _ _ => true
  | .bop _ _ _ => true
  | .sl _ _ _ => true
  | .rev _ => true
  | .blt b _ => b.fresh
  | .vals _ _ _ => true
  | _ => false

/-- an exception as it flies -/
structure XV (K : PySem.W.Frag) (mg : Str → Option Value) (φ : List Addr) (χ : Ads) (H : Hp) (x : String) (fs : List D) (cls : Value) (dd : Option Addr) : Prop where
  cl : ∃ C, ExAt K x C ∧ x ≠ "PaceError" ∧ cls = .ref C
  fl : (fs = [] ∧ dd = none) ∨ ∃ (a : Addr) (vs : List V), dd = some a ∧ ¬ χ a ∧ H a = some (.xd (xdl x vs)) ∧ RVs K φ χ H fs vs ∧ vs.length = (excF x).length

/-- a value; a new list told as such: it is kept apart -/
inductive RVf (fr : Bool) (K : PySem.W.Frag) (H0 : Hp) (φ : List Addr) (χ : Ads) (H : Hp) : D → V → Prop
  | plain {d : D} {v : V} : RV K φ χ H d v → (fr = true → ∀ ds, d ≠ .lst ds) → RVf fr K H0 φ χ H d v
  | new {p : Addr} {ds : List D} {vs : List V} : fr = true → χ p → p ∉ φ → H0 p = none → H p = some (.lst vs) → RVs K φ χ H ds vs → RVf fr K H0 φ χ H (.lst ds) (.ref p)

section
variable {X : Cx} {W : WX} {l : List Nat} {τ : L2.St} {φ φ' φ1 : List Addr} {χ χ' χ1 : Ads} {H H' H1 H0 : Hp} {h h' : Hh} {α β : Type}
/-- what is wanted of an outcome -/
def Out (X : Cx) (W : WX) (l : List Nat) (τ : L2.St) (φ : List Addr) (χ : Ads) (H : Hp) (r : R α) (good : List Addr → Ads → Hp → α → Hh → Prop) : Prop := match r with
  | .ok a h' => ∀ φ' χ' H', Ext φ χ H φ' χ' H' → HR X.K X.mg φ' χ' H' l h' → good φ' χ' H' a h'
  | .ex x fs h' => ∀ φ' χ' H' cls dd, Ext φ χ H φ' χ' H' → HR X.K X.mg φ' χ' H' l h' → XV X.K X.mg φ' χ' H' x fs cls dd → W cls dd τ H'
  | .bad => False
theorem Out.bind {r : R α} {f : α → Hh → R β} {good : List Addr → Ads → Hp → β → Hh → Prop} (o : Out X W l τ φ χ H (r.bind f) good) :
    Out X W l τ φ χ H r fun φ' χ' H' a h' => Out X W l τ φ' χ' H' (f a h') good := by
  cases r with
  | bad => exact o
  | ex x fs h' => exact o
  | ok a h' =>
    intro φ' χ' H' x hr
    have o' : Out X W l τ φ χ H (f a h') good := o
    show Out X W l τ φ' χ' H' (f a h') good
    cases e : f a h' with
    | bad => rw [e] at o'; exact o'
    | ex y fs h2 =>
      rw [e] at o'
      exact fun φ2 χ2 H2 cls dd x2 hr2 xv => o' φ2 χ2 H2 cls dd (x.trans x2) hr2 xv
    | ok b h2 =>
      rw [e] at o'
      exact fun φ2 χ2 H2 x2 hr2 => o' φ2 χ2 H2 (x.trans x2) hr2
theorem Out.mono {r : R α} {good good' : List Addr → Ads → Hp → α → Hh → Prop} (o : Out X W l τ φ χ H r good)
    (k : ∀ φ' χ' H' a h', r = .ok a h' → Ext φ χ H φ' χ' H' → HR X.K X.mg φ' χ' H' l h' → good φ' χ' H' a h' → good' φ' χ' H' a h') : Out X W l τ φ χ H r good' := by
  cases r with
  | bad => exact o
  | ex x fs h' => exact o
  | ok a h' => exact fun φ' χ' H' x hr => k φ' χ' H' a h' rfl x hr (o φ' χ' H' x hr)
/-- from later on -/
theorem Out.later {r : R α} {good : List Addr → Ads → Hp → α → Hh → Prop} (x : Ext φ χ H φ1 χ1 H1) (o : Out X W l τ φ χ H r good) : Out X W l τ φ1 χ1 H1 r good := by
  cases r with
  | bad => exact o
  | ex y fs h2 => exact fun φ2 χ2 H2 cls dd x2 hr2 xv => o φ2 χ2 H2 cls dd (x.trans x2) hr2 xv
  | ok b h2 => exact fun φ2 χ2 H2 x2 hr2 => o φ2 χ2 H2 (x.trans x2) hr2

/-- the reading of an expression -/
def tM (X : Cx) (W : WX) (l : List Nat) (e : E) : TE := fun τ H Q => ∃ φ χ σ h, RS X.K φ χ H σ τ ∧ HR X.K X.mg φ χ H l h ∧
  Out X W l τ φ χ H (evE l e σ h) fun φ' χ' H' d _ => ∀ v, RVf e.fresh X.K H φ' χ' H' d v → Q v H'
def tMs (X : Cx) (W : WX) (l : List Nat) (es : EL) : TA := fun τ H Q => ∃ φ χ σ h, RS X.K φ χ H σ τ ∧ HR X.K X.mg φ χ H l h ∧
  Out X W l τ φ χ H (evL l es σ h) fun φ' χ' H' ds _ => ∀ vs, RVs X.K φ' χ' H' ds vs → Q vs H'
def tMt (X : Cx) (W : WX) (l : List Nat) (e : E) : TT := fun τ H Q => ∃ φ χ σ h, RS X.K φ χ H σ τ ∧ HR X.K X.mg φ χ H l h ∧
  Out X W l τ φ χ H (evE l e σ h) fun _ _ H' d _ => ∃ b, d = .bl b ∧ Q b H'

theorem peImp {e : Expr} {t t' : TE} (p : PE X e t) (k : ∀ τ H Q, t' τ H Q → t τ H Q) : PE X e t' := ⟨fun pins s σ H Q I q => p.run pins s σ H Q I (k σ H Q q)⟩
theorem ptImp {e : Expr} {t t' : TT} (p : PT X e t) (k : ∀ τ H Q, t' τ H Q → t τ H Q) : PT X e t' := ⟨fun pins s σ H Q I q => p.run pins s σ H Q I (k σ H Q q)⟩
theorem paImp {e : List Expr} {t t' : TA} (p : PA X e t) (k : ∀ τ H Q, t' τ H Q → t τ H Q) : PA X e t' := ⟨fun pos pins s σ H Q I q => p.run pos pins s σ H Q I (k σ H Q q)⟩

/-- one address less is ours -/
theorem Ext.drop {p : Addr} (x : Ext φ χ H φ' χ' H') (hn : H p = none) (hc : ¬ χ p) : Ext φ χ H φ' (fun a => χ' a ∧ a ≠ p) H' :=
  ⟨⟨x.pre, fun a q => ⟨x.sub a q, fun e => hc (e ▸ q)⟩, fun a q => x.new a q.1, x.keep, x.tups, x.frl⟩, x.kp, x.fr⟩
/-- what wants a plain value -/
theorem Out.plain {fr : Bool} {r : R D} {Q : V → Hp → Prop} (hr0 : HR X.K X.mg φ χ H l h) (o : Out X W l τ φ χ H r fun φ' χ' H' d _ => ∀ v, RV X.K φ' χ' H' d v → Q v H') :
    Out X W l τ φ χ H r fun φ' χ' H' d _ => ∀ v, RVf fr X.K H φ' χ' H' d v → Q v H' := by
  cases r with
  | bad => exact o
  | ex x fs h' => exact o
  | ok d h' =>
    intro φ' χ' H' x hr v rv
    cases rv with
    | plain rv _ => exact o φ' χ' H' x hr v rv
    | @new p ds vs _ c1 c2 c3 c4 c5 =>
      have nc : ¬ χ p := fun q => hr0.ch p q c3
      refine o φ' _ H' (x.drop c3 nc) (hr.less (fun a q => q.1) fun a ha => ⟨hr.sub a ha, fun e => c2 (e ▸ ha)⟩) (.ref p) (.lst (fun q => q.2 rfl) c4 (c5.less fun a q => q.1))
/-- a subexpression's reading, from the whole's outcome -/
theorem tM.of {e : E} {σ : Sg} {Q : VK} (rs : RS X.K φ χ H σ τ) (hr : HR X.K X.mg φ χ H l h) (o : Out X W l τ φ χ H (evE l e σ h) fun φ' χ' H' d h' => HR X.K X.mg φ' χ' H' l h' → ∀ v, RV X.K φ' χ' H' d v → Q v H') : tM X W l e τ H Q :=
  ⟨φ, χ, σ, h, rs, hr, (o.mono fun φ' χ' H' a h' _ x hr' g => g hr').plain hr⟩

/-- a new tuple -/
theorem Ext.newT {p : Addr} {vs : List V} (hn : H p = none) : Ext φ χ H φ χ (upd H p (.tup vs)) := by
  refine ⟨⟨⟨[], by simp⟩, fun _ q => q, fun _ q n => absurd q n, fun a o _ ho => ?_, fun a xs ho => ?_, fun a o xs ho => ?_⟩, fun a o _ ho => ?_, fun a q n => absurd q n⟩ <;> (rw [upd_ne (ne_of_none ho hn)]; exact ho)
theorem OV.heap {K : PySem.W.Frag} {mg : Str → Option Value} {o : Ob} {a : Addr} (c : OV K mg φ χ H o a) : ∃ u, H a = some u := by
  cases c with
  | lst e _ => exact ⟨_, e⟩
  | dk e _ _ => exact ⟨_, e⟩
  | ins _ e _ _ => exact ⟨_, e⟩
theorem HR.heap (r : HR X.K X.mg φ χ H l h) {a : Addr} (ha : a ∈ φ) : ∃ u, H a = some u := by
  obtain ⟨n, hn, e⟩ := List.mem_iff_getElem.mp ha
  have hl : n < h.length := by have := r.len; omega
  exact (r.ob n a (h[n]'hl) (by rw [List.getElem?_eq_getElem hn, e]) (List.getElem?_eq_getElem hl)).heap
theorem HR.extW {χ' : Ads} (r : HR X.K X.mg φ χ H l h) (x : ExtW φ χ H φ χ' H') (e : ∀ a ∈ φ, H' a = H a) (c : ∀ a, χ' a → H' a ≠ none) : HR X.K X.mg φ χ' H' l h :=
  ⟨r.len, r.nd, fun a ha => x.sub a (r.sub a ha), fun n a o e1 e2 => (r.ob n a o e1 e2).extW x (e a (List.mem_of_getElem? e1)), r.lim, r.top, c⟩
theorem HR.ext {χ' : Ads} (r : HR X.K X.mg φ χ H l h) (x : Ext φ χ H φ χ' H') (e : ∀ a ∈ φ, H' a = H a) (c : ∀ a, χ' a → H' a ≠ none) : HR X.K X.mg φ χ' H' l h :=
  ⟨r.len, r.nd, fun a ha => x.sub a (r.sub a ha), fun n a o e1 e2 => (r.ob n a o e1 e2).ext x (e a (List.mem_of_getElem? e1)), r.lim, r.top, c⟩
theorem HR.newT {p : Addr} {vs : List V} (r : HR X.K X.mg φ χ H l h) (hn : H p = none) : HR X.K X.mg φ χ (upd H p (.tup vs)) l h :=
  r.ext (.newT hn) (fun a ha => upd_ne (by obtain ⟨u, e⟩ := r.heap ha; exact ne_of_none e hn)) fun a q => by
    by_cases e : a = p
    · rw [e, upd_same]; simp
    · rw [upd_ne e]; exact r.ch a q
/-- a new list, kept apart -/
theorem Ext.newL {p : Addr} {vs : List V} (hn : H p = none) : Ext φ χ H φ (fun a => χ a ∨ a = p) (upd H p (.lst vs)) := by
  refine ⟨⟨⟨[], by simp⟩, fun _ q => .inl q, fun a q n => q.elim (fun z => absurd z n) fun z => by rw [z]; exact hn, fun a o _ ho => ?_, fun a xs ho => ?_, fun a o xs ho => ?_⟩, fun a o _ ho => ?_, fun a q n => absurd q n⟩ <;> (rw [upd_ne (ne_of_none ho hn)]; exact ho)
theorem HR.newL {p : Addr} {vs : List V} (r : HR X.K X.mg φ χ H l h) (hn : H p = none) : HR X.K X.mg φ (fun a => χ a ∨ a = p) (upd H p (.lst vs)) l h :=
  r.ext (.newL hn) (fun a ha => upd_ne (by obtain ⟨u, e⟩ := r.heap ha; exact ne_of_none e hn)) fun a q => by
    by_cases e : a = p
    · rw [e, upd_same]; simp
    · rw [upd_ne e]; exact r.ch a (q.resolve_right e)
/-- the outcome is a new tuple -/
theorem Out.tup {ds : List D} {vs : List V} {p : Addr} {Q : VK} {fr : Bool} (hr : HR X.K X.mg φ χ H l h) (rv : RVs X.K φ χ H ds vs) (hn : H p = none)
    (o : Out X W l τ φ χ H (.ok (.tup ds) h) fun φ' χ' H' d _ => ∀ v, RVf fr X.K H0 φ' χ' H' d v → Q v H') : Q (.ref p) (upd H p (.tup vs)) :=
  o φ χ _ (.newT hn) (hr.newT hn) _ (.plain (.tup (.inl upd_same) (rv.ext (.newT hn))) fun _ ds e => by cases e)
/-- .. a new list -/
theorem Out.new {ds : List D} {vs : List V} {p : Addr} {Q : VK} {fr : Bool} (hr : HR X.K X.mg φ χ H l h) (rv : RVs X.K φ χ H ds vs) (hn : H p = none) (h0 : H0 p = none)
    (o : Out X W l τ φ χ H (.ok (.lst ds) h) fun φ' χ' H' d _ => ∀ v, RVf fr X.K H0 φ' χ' H' d v → Q v H') : Q (.ref p) (upd H p (.lst vs)) := by
  cases fr with
  | true => exact o φ _ _ (.newL hn) (hr.newL hn) _ (.new rfl (.inr rfl) (fun ha => by obtain ⟨u, e⟩ := hr.heap ha; rw [hn] at e; cases e) h0 upd_same (rv.ext (.newL hn)))
  | false =>
    have nc : ¬ χ p := fun q => hr.ch p q hn
    refine o φ χ _ ⟨⟨⟨[], by simp⟩, fun _ q => q, fun _ q n => absurd q n, (Ext.newL (φ := φ) (χ := χ) hn).keep, (Ext.newL (φ := φ) (χ := χ) hn).tups, (Ext.newL (φ := φ) (χ := χ) hn).frl⟩, (Ext.newL (φ := φ) (χ := χ) hn).kp, fun a q n => absurd q n⟩ ((hr.newL hn).less (fun a q => .inl q) hr.sub) _
      (.plain (.lst nc upd_same ((rv.ext (.newL hn)).less fun a q => .inl q)) (fun e => by cases e))
/-- .. any value that lies as it lay -/
theorem Out.same {d : D} {v : V} {Q : VK} {fr : Bool} (hr : HR X.K X.mg φ χ H l h) (rv : RV X.K φ χ H d v) (hf : fr = true → ∀ ds, d ≠ .lst ds)
    (o : Out X W l τ φ χ H (.ok d h) fun φ' χ' H' d _ => ∀ v, RVf fr X.K H0 φ' χ' H' d v → Q v H') : Q v H := o φ χ H .refl hr v (.plain rv hf)
theorem Out.same0 {d : D} {v : V} {Q : VK} (hr : HR X.K X.mg φ χ H l h) (rv : RV X.K φ χ H d v)
    (o : Out X W l τ φ χ H (.ok d h) fun φ' χ' H' d _ => ∀ v, RVf false X.K H0 φ' χ' H' d v → Q v H') : Q v H := Out.same (fr := false) hr rv (fun q => nomatch q) o
/-- fresh now is fresh ahead -/
theorem Ext.back {p : Addr} (x : Ext φ χ H φ' χ' H') (hr : HR X.K X.mg φ' χ' H' l h') (hr0 : HR X.K X.mg φ χ H l h) (hn : H' p = none) : H p = none := by
  cases e : H p with
  | none => rfl
  | some o =>
    by_cases q : χ p
    · exact absurd hn (hr.ch p (x.sub p q))
    · rw [x.keep p o q e] at hn; cases hn

/-! ### names and constants -/
theorem m_var {i : Nat} {x : Str} {pos : Pos} (hN : X.N[i]? = some x) (hv : Vis X.env.scope x) (hd : (x == ("__debug__" : Str)) = false) (hcd : (x == ("__classdict__" : Str)) = false) : PE X (.Name x pos) (tM X W l (.var i)) := by
  refine peImp (pe_var hN hv hd hcd) fun τ H Q ⟨φ, χ, σ, h, rs, hr, o⟩ => ?_
  unfold evE varV at o
  cases e : σ[i]? with
  | none => rw [e] at o; exact o.elim
  | some d =>
    cases d with
    | none => rw [e] at o; exact o.elim
    | some d =>
      rw [e] at o
      obtain ⟨v, e1, rv⟩ := rs.at_ i d e
      exact ⟨v, e1, Out.same0 (H0 := H) hr rv o⟩
theorem m_int {i : Int} {j : Nat} {pos : Pos} : PE X (.Constant (.int i) j pos) (tM X W l (.cst (.int i))) := peImp pe_int fun τ H Q ⟨φ, χ, σ, h, rs, hr, o⟩ => Out.same0 (W := W) (τ := τ) (H0 := H) hr (.int i) (by unfold evE at o; exact o)
theorem m_bl {i : Bool} {j : Nat} {pos : Pos} : PE X (.Constant (.bool i) j pos) (tM X W l (.cst (.bl i))) := peImp pe_bl fun τ H Q ⟨φ, χ, σ, h, rs, hr, o⟩ => Out.same0 (W := W) (τ := τ) (H0 := H) hr (.bl i) (by unfold evE at o; exact o)
theorem m_non {j : Nat} {pos : Pos} : PE X (.Constant .none j pos) (tM X W l (.cst .non)) := peImp pe_non fun τ H Q ⟨φ, χ, σ, h, rs, hr, o⟩ => Out.same0 (W := W) (τ := τ) (H0 := H) hr .non (by unfold evE at o; exact o)
theorem m_str {i : Str} {j : Nat} {pos : Pos} : PE X (.Constant (.str i) j pos) (tM X W l (.cst (.str i))) := peImp pe_str fun τ H Q ⟨φ, χ, σ, h, rs, hr, o⟩ => Out.same0 (W := W) (τ := τ) (H0 := H) hr (.str i) (by unfold evE at o; exact o)
/-- what a module's name holds -/
structure GlobOk (K : PySem.W.Frag) (mg : Str → Option Value) (x : String) (d : D) : Prop where
  ex : ∃ u v, mg (Str.ofString x) = some u ∧ RelV v u ∧ ∀ φ χ H, RV K φ χ H d v
  nl : ∀ ds, d ≠ .lst ds
theorem m_glob {x : String} {d : D} {pos : Pos} (g : GlobOk X.K X.mg x d) (hg : Gl X (Str.ofString x)) (hd : (Str.ofString x == ("__debug__" : Str)) = false) : PE X (.Name (Str.ofString x) pos) (tM X W l (.glob x d)) := by
  obtain ⟨u, v, hm, r, q⟩ := g.ex
  exact peImp (pe_glob hg hm r hd) fun τ H Q ⟨φ, χ, σ, h, rs, hr, o⟩ => Out.same0 (W := W) (τ := τ) (H0 := H) hr (q φ χ H) (by unfold evE at o; exact o)
end
end Mp

set_option maxRecDepth 100000
set_option maxHeartbeats 4000000
/-! Mp2n: a tuple once is the tuple itself. -/
namespace L2
open PySem PySem.Spec PyProof.Rows
theorem tuple_mul1W (l : Addr) (items : Array Value) (n : Nat) (dd : Option Addr) (sl : Array (Option Value)) (u : Tok) :
    Meets (Builtin.«tuple.__mul__» ⟨[.ref l, .int 1 u], []⟩) (fun _ R s => s.heap.get? l = some { cls := .type "tuple", dict := dd, data := .seq items n, slots := sl } ∧ R (.ok (.ret (.ref l))) s) :=
  .of_wp fun prog w A R s h => by
    obtain ⟨hp, g, d, tk, os⟩ := s
    obtain ⟨hl, h⟩ := h
    have f1 := AutoSeq1.idx_int
    wp_walk using wpAny_loadPart' hl
    repeat (first
      | (refine wpAny_ite_false (by decide) ?_; wp_walk using wpAny_loadPart' hl)
      | (refine wpAny_ite_true (by simp) ?_; wp_walk using wpAny_loadPart' hl))
    exact ⟨_, rfl, h⟩
def rRepT1 (K : PySem.W.Frag) : R2 := fun x y H Q => ∃ l xs, x = .ref l ∧ y = .int 1 ∧ SqT K H l xs ∧ Q (.ref l) H
section
variable {X : Cx}
theorem op_repT1 : OpR X (binaryOp .Mult) (rRepT1 X.K) := by
  intro pins s σ H x y v u Q I rx ry h
  obtain ⟨l, xs, rfl, rfl, hT, q⟩ := h
  cases rx
  obtain ⟨t, rfl⟩ := ry
  obtain ⟨its, r, ⟨⟨cls, dd, data, sl⟩, ho, hc, n, hd⟩, hs⟩ := I.tuple hT
  simp only at hc hd
  subst hc hd
  refine wpAny_binaryOp_repeat_ref (T := "tuple") (U := "int") (by decide) ⟨_, ho, rfl⟩ (fun s' => typeIs_int s' 1 t) noFill_tuple_mul F.fills_int_mul F.slot_int_rmul repeat_tuple F.slot_int_index.lookup
    (call_meets F.slot_int_rmul (typeIs_int s 1 t) F.entry_int_rmul (F.args_int_rmul_2 _ _) (int_rmul_tuple 1 t l its.toArray n dd sl)
      ⟨ho, rfl, ⟨_, ho, rfl⟩, call_meets F.slot_tuple_mul ⟨_, ho, rfl⟩ F.entry_tuple_mul (F.args_tuple_mul_2 _ _) (tuple_mul1W l its.toArray n dd sl t) ⟨ho, ?_⟩⟩)
  exact ⟨.ref l, _, I, rfl, q⟩
end
end L2

set_option maxRecDepth 100000
/-! Mp2c: operators and comparisons. -/
namespace Mp
open PySem PySem.Spec PyProof.Rows L2

section
variable {X : Cx} {W : WX} {l : List Nat} {τ : L2.St} {φ φ' φ1 : List Addr} {χ χ' χ1 : Ads} {H H' H1 H0 : Hp} {h h' : Hh} {α β : Type} {K : PySem.W.Frag} {mg : Str → Option Value}

theorem HR.getL (r : HR K mg φ χ H l h) {n : Nat} {a : Addr} {ds : List D} (e : φ[n]? = some a) (g : getL h n = some ds) : ∃ vs, H a = some (.lst vs) ∧ RVs K φ χ H ds vs := by
  unfold Mp.getL at g
  split at g
  · rename_i xs q
    cases g
    have o := r.ob n a _ e q
    cases o with
    | lst e1 e2 => exact ⟨_, e1, e2⟩
  · cases g
theorem RV.lstOf (r : HR K mg φ χ H l h) {d : D} {v : V} {ds : List D} (rv : RV K φ χ H d v) (g : lstOf h d = some ds) : ∃ a vs, v = .ref a ∧ H a = some (.lst vs) ∧ RVs K φ χ H ds vs := by
  cases rv with
  | lst n e t => cases g; exact ⟨_, _, rfl, e, t⟩
  | ref e =>
    obtain ⟨vs, q1, q2⟩ := r.getL e g
    exact ⟨_, vs, rfl, q1, q2⟩
  | _ => cases g
theorem RV.extOf (r : HR K mg φ χ H l h) {d : D} {v : V} {ds : List D} (rv : RV K φ χ H d v) (g : extOf h d = some ds) : ∃ a vs, v = .ref a ∧ (H a = some (.lst vs) ∨ SqT K H a vs) ∧ RVs K φ χ H ds vs := by
  cases rv with
  | tup t q => cases g; exact ⟨_, _, rfl, .inr t.sq, q⟩
  | lst n e t => cases g; exact ⟨_, _, rfl, .inl e, t⟩
  | ref e =>
    obtain ⟨vs, q1, q2⟩ := r.getL e g
    exact ⟨_, vs, rfl, .inl q1, q2⟩
  | _ => cases g
theorem RV.listOf (r : HR K mg φ χ H l h) {d : D} {v : V} {ds : List D} (rv : RV K φ χ H d v) (g : listOf h d = some ds) : ∃ a vs, v = .ref a ∧ SqL K H a vs ∧ RVs K φ χ H ds vs := by
  cases rv with
  | scr s => cases g; exact ⟨_, _, rfl, s.sq, RVs.ints _⟩
  | lst n e t => cases g; exact ⟨_, _, rfl, SqL.of e, t⟩
  | ref e =>
    obtain ⟨vs, q1, q2⟩ := r.getL e g
    exact ⟨_, vs, rfl, SqL.of q1, q2⟩
  | _ => cases g
theorem RV.seqOf (r : HR K mg φ χ H l h) {d : D} {v : V} {ds : List D} (rv : RV K φ χ H d v) (g : seqOf h d = some ds) : ∃ a vs, v = .ref a ∧ (SqL K H a vs ∨ SqT K H a vs) ∧ RVs K φ χ H ds vs := by
  cases rv with
  | tup t q => cases g; exact ⟨_, _, rfl, .inr t.sq, q⟩
  | scr s => cases g; exact ⟨_, _, rfl, .inl s.sq, RVs.ints _⟩
  | lst n e t => cases g; exact ⟨_, _, rfl, .inl (SqL.of e), t⟩
  | ref e =>
    obtain ⟨vs, q1, q2⟩ := r.getL e g
    exact ⟨_, vs, rfl, .inl (SqL.of q1), q2⟩
  | _ => cases g
/-- plain data as data -/
theorem flats_cons {d : D} {ds : List D} {xs : List PyData} (e : D.flats (d :: ds) = some xs) : ∃ y ys, xs = y :: ys ∧ d.flat = some y ∧ D.flats ds = some ys := by
  unfold D.flats at e
  split at e
  · cases e; exact ⟨_, _, rfl, by assumption, by assumption⟩
  · cases e
theorem pys_cons {d : D} {ds : List D} {xs : List PyData} (e : D.pys h (d :: ds) = some xs) : ∃ y ys, xs = y :: ys ∧ d.py h = some y ∧ D.pys h ds = some ys := by
  unfold D.pys at e
  split at e
  · cases e; exact ⟨_, _, rfl, by assumption, by assumption⟩
  · cases e
mutual
theorem RV.flat : ∀ {d : D} {v : V} {x : PyData}, RV K φ χ H d v → d.flat = some x → Dp K H v x
  | _, _, _, .non, e => by cases e; exact .non
  | _, _, _, .bl b, e => by cases e; exact .bl b
  | _, _, _, .int b, e => by cases e; exact .int b
  | _, _, _, .str b, e => by cases e; exact .str b
  | _, _, _, .tup (ds := ds) t r, e => by
    unfold D.flat at e
    obtain ⟨xs, e1, rfl⟩ := Option.map_eq_some_iff.mp e
    exact .tup t.sq (RVs.flat r e1)
  | _, _, _, .lst (ds := ds) n t r, e => by
    unfold D.flat at e
    obtain ⟨xs, e1, rfl⟩ := Option.map_eq_some_iff.mp e
    exact .lst (SqL.of t) (RVs.flat r e1)
  | _, _, _, .ref _, e => by cases e
  | _, _, _, .scr _, e => by cases e
  | _, _, _, .exc0 _ _ _ _, e => by cases e
  | _, _, _, .exc _ _ _ _ _ _ _ _, e => by cases e
theorem RVs.flat : ∀ {d : List D} {v : List V} {x : List PyData}, RVs K φ χ H d v → D.flats d = some x → DpAll K H v x
  | _, _, _, .nil, e => by cases e; exact .nil
  | _, _, _, .cons r t, e => by
    obtain ⟨y, ys, rfl, e1, e2⟩ := flats_cons e
    exact .cons (RV.flat r e1) (RVs.flat t e2)
end
mutual
theorem RV.py (hr : HR K mg φ χ H l h) : ∀ {d : D} {v : V} {x : PyData}, RV K φ χ H d v → d.py h = some x → Dp K H v x
  | _, _, _, .non, e => by cases e; exact .non
  | _, _, _, .bl b, e => by cases e; exact .bl b
  | _, _, _, .int b, e => by cases e; exact .int b
  | _, _, _, .str b, e => by cases e; exact .str b
  | _, _, _, .tup (ds := ds) t r, e => by
    unfold D.py at e
    obtain ⟨xs, e1, rfl⟩ := Option.map_eq_some_iff.mp e
    exact .tup t.sq (RVs.py hr r e1)
  | _, _, _, .lst (ds := ds) n t r, e => by
    unfold D.py at e
    obtain ⟨xs, e1, rfl⟩ := Option.map_eq_some_iff.mp e
    exact .lst (SqL.of t) (RVs.py hr r e1)
  | _, _, _, .ref (n := n) q, e => by
    unfold D.py at e
    obtain ⟨ds, e1, e2⟩ := Option.bind_eq_some_iff.mp e
    obtain ⟨xs, e3, rfl⟩ := Option.map_eq_some_iff.mp e2
    obtain ⟨vs, q1, q2⟩ := hr.getL q e1
    exact .lst (SqL.of q1) (q2.flat e3)
  | _, _, _, .scr _, e => by cases e
  | _, _, _, .exc0 _ _ _ _, e => by cases e
  | _, _, _, .exc _ _ _ _ _ _ _ _, e => by cases e
theorem RVs.py (hr : HR K mg φ χ H l h) : ∀ {d : List D} {v : List V} {x : List PyData}, RVs K φ χ H d v → D.pys h d = some x → DpAll K H v x
  | _, _, _, .nil, e => by cases e; exact .nil
  | _, _, _, .cons r t, e => by
    obtain ⟨y, ys, rfl, e1, e2⟩ := pys_cons e
    exact .cons (RV.py hr r e1) (RVs.py hr t e2)
end
theorem RVs.intsOf : ∀ {ds : List D} {vs : List V} {ns : List Int}, RVs K φ χ H ds vs → intsOf ds = some ns → vs = ns.map V.int
  | _, _, _, .nil, e => by cases e; rfl
  | _, _, _, .cons (d := d) r t, e => by
    cases r with
    | int i =>
      obtain ⟨ms, e1, rfl⟩ := Option.map_eq_some_iff.mp (show (Mp.intsOf _).map (i :: ·) = some _ from e)
      rw [RVs.intsOf t e1]; rfl
    | _ => cases e
theorem RVs.blsOf : ∀ {ds : List D} {vs : List V} {ns : List Bool}, RVs K φ χ H ds vs → blsOf ds = some ns → vs = ns.map V.bl
  | _, _, _, .nil, e => by cases e; rfl
  | _, _, _, .cons (d := d) r t, e => by
    cases r with
    | bl i =>
      obtain ⟨ms, e1, rfl⟩ := Option.map_eq_some_iff.mp (show (Mp.blsOf _).map (i :: ·) = some _ from e)
      rw [RVs.blsOf t e1]; rfl
    | _ => cases e

/-! ### operators -/
/-- two subexpressions, then what the operator asks -/
theorem m_two {a b : Expr} {ea eb : E} {whole : E} {e : Expr} {r : R2} {f : Hh → D → D → R D} (hp : PE X e (tOp r (tM X W l ea) (tM X W l eb)))
    (hev : ∀ σ h, evE l whole σ h = (evE l ea σ h).bind fun x h => (evE l eb σ h).bind fun y h => f h x y)
    (hk : ∀ (τ : L2.St) (φ : List Addr) (χ : Ads) (H H0 : Hp) (h : Hh) (d1 d2 : D) (v1 v2 : V) (Q : VK), HR X.K X.mg φ χ H l h → RV X.K φ χ H d1 v1 → RV X.K φ χ H d2 v2 → (∀ p, H p = none → H0 p = none) →
      Out X W l τ φ χ H (f h d1 d2) (fun φ' χ' H' d _ => ∀ v, RVf whole.fresh X.K H0 φ' χ' H' d v → Q v H') → r v1 v2 H Q) :
    PE X e (tM X W l whole) := by
  refine peImp hp fun τ H Q ⟨φ, χ, σ, h, rs, hr, o⟩ => ?_
  rw [hev] at o
  refine tM.of rs hr (o.bind.mono fun φ1 χ1 H1 d1 h1 _ x1 hr1 g1 _ v1 rv1 => ?_)
  refine tM.of (rs.ext x1) hr1 (g1.bind.mono fun φ2 χ2 H2 d2 h2 _ x2 hr2 g2 _ v2 rv2 => ?_)
  exact hk τ φ2 χ2 H2 H h2 d1 d2 v1 v2 Q hr2 (rv1.ext x2) rv2 (fun p hn => (x1.trans x2).back hr2 hr hn) g2
theorem m_bop {a b : Expr} {ea eb : E} {op : Operator} {o : Bop} {r : R2} {pos : Pos} (ho : OpR X (binaryOp op) r) (ha : PE X a (tM X W l ea)) (hb : PE X b (tM X W l eb))
    (hk : ∀ (τ : L2.St) (φ : List Addr) (χ : Ads) (H H0 : Hp) (h : Hh) (d1 d2 : D) (v1 v2 : V) (Q : VK), HR X.K X.mg φ χ H l h → RV X.K φ χ H d1 v1 → RV X.K φ χ H d2 v2 → (∀ p, H p = none → H0 p = none) →
      Out X W l τ φ χ H (bop o h d1 d2) (fun φ' χ' H' d _ => ∀ v, RVf true X.K H0 φ' χ' H' d v → Q v H') → r v1 v2 H Q) :
    PE X (.BinOp a op b pos) (tM X W l (.bop o ea eb)) :=
  m_two (a := a) (b := b) (pe_op ho ha hb) (fun σ h => by conv => lhs; unfold evE) hk
theorem int_nf {i : Int} : true = true → ∀ ds, D.int i ≠ .lst ds := fun _ _ e => nomatch e
theorem bl_nf {i : Bool} : true = true → ∀ ds, D.bl i ≠ .lst ds := fun _ _ e => nomatch e

def rAdd4 (K : PySem.W.Frag) : R2 := fun x y H Q => (((∃ i j, x = .int i ∧ y = .int j ∧ Q (.int (i + j)) H) ∨ (∃ i j, x = .str i ∧ y = .str j ∧ i.length + j.length ≤ sizeLine ∧ Q (.str (i ++ j)) H)) ∨ (rCatA K x y H Q ∨ rCat x y H Q))
theorem o_add : OpR X (binaryOp .Add) (rAdd4 X.K) := OpR.or (OpR.or op_add op_add_str) (OpR.or op_catA op_cat)
theorem m_add {a b : Expr} {ea eb : E} {pos : Pos} (ha : PE X a (tM X W l ea)) (hb : PE X b (tM X W l eb)) : PE X (.BinOp a .Add b pos) (tM X W l (.bop .add ea eb)) := by
  refine m_bop o_add ha hb fun τ φ χ H H0 h d1 d2 v1 v2 Q hr r1 r2 fr o => ?_
  unfold bop at o
  simp only at o
  split at o
  · cases r1; cases r2
    exact .inl (.inl ⟨_, _, rfl, rfl, Out.same hr (.int _) int_nf o⟩)
  · cases r1; cases r2
    split at o
    · exact .inl (.inr ⟨_, _, rfl, rfl, by assumption, Out.same hr (.str _) (fun _ _ e => nomatch e) o⟩)
    · exact o.elim
  · split at o
    · rename_i hl
      cases r1 with
      | @tup a vs _ t1 s1 =>
        cases r2 with
        | @tup b ws _ t2 s2 =>
          have l1 := s1.length
          have l2 := s2.length
          refine .inr (.inl ⟨a, b, vs, ws, rfl, rfl, t1.sq, t2.sq, by omega, fun e => ?_, fun e1 e2 => ?_, fun e1 e2 p hp => ?_⟩)
          · subst e
            cases s1
            exact Out.same hr (.tup t2 s2) (fun _ _ e => nomatch e) o
          · subst e2
            cases s2
            exact Out.same hr (.tup t1 (by rw [List.append_nil]; exact s1)) (fun _ _ e => nomatch e) o
          · exact Out.tup hr (s1.append s2) hp o
    · exact o.elim
  · split at o
    · rename_i xs ys e1 e2
      split at o
      · rename_i hl
        obtain ⟨a, vs, rfl, q1, s1⟩ := r1.lstOf hr e1
        obtain ⟨b, ws, rfl, q2, s2⟩ := r2.lstOf hr e2
        have l1 := s1.length
        have l2 := s2.length
        exact .inr (.inr ⟨a, b, vs, ws, rfl, rfl, q1, q2, by omega, fun p hp => Out.new hr (s1.append s2) hp (fr p hp) o⟩)
      · exact o.elim
    · exact o.elim
theorem m_sub {a b : Expr} {ea eb : E} {pos : Pos} (ha : PE X a (tM X W l ea)) (hb : PE X b (tM X W l eb)) : PE X (.BinOp a .Sub b pos) (tM X W l (.bop .sub ea eb)) := by
  refine m_bop op_sub ha hb fun τ φ χ H H0 h d1 d2 v1 v2 Q hr r1 r2 fr o => ?_
  unfold bop at o
  simp only at o
  split at o
  · cases r1; cases r2
    exact ⟨_, _, rfl, rfl, Out.same hr (.int _) int_nf o⟩
  · exact o.elim
theorem small_lt {i : Int} (h : small i = true) : i.natAbs < 2 ^ 9000 := by
  unfold small at h
  exact of_decide_eq_true h
def rMul2 (K : PySem.W.Frag) : R2 := fun x y H Q => rI CMulW (fun i j => .int (i * j)) x y H Q ∨ (rRep x y H Q ∨ (rRepT K x y H Q ∨ rRepT1 K x y H Q))
theorem o_mul : OpR X (binaryOp .Mult) (rMul2 X.K) := OpR.or op_mulW (OpR.or op_rep (OpR.or op_repT op_repT1))
theorem rep_rvs {ds : List D} {vs : List V} (r : RVs K φ χ H ds vs) : ∀ k : Nat, RVs K φ χ H (List.replicate k ds).flatten (List.replicate k vs).flatten
  | 0 => .nil
  | k + 1 => by
    rw [List.replicate_succ, List.replicate_succ, List.flatten_cons, List.flatten_cons]
    exact r.append (rep_rvs r k)
theorem m_mul {a b : Expr} {ea eb : E} {pos : Pos} (ha : PE X a (tM X W l ea)) (hb : PE X b (tM X W l eb)) : PE X (.BinOp a .Mult b pos) (tM X W l (.bop .mul ea eb)) := by
  refine m_bop o_mul ha hb fun τ φ χ H H0 h d1 d2 v1 v2 Q hr r1 r2 fr o => ?_
  unfold bop at o
  simp only at o
  split at o
  · cases r1; cases r2
    split at o
    · rename_i hs
      rw [Bool.and_eq_true] at hs
      exact .inl ⟨_, _, rfl, rfl, wide_mul (small_lt hs.1) (small_lt hs.2) (by decide) (by decide) (by decide), Out.same hr (.int _) int_nf o⟩
    · exact o.elim
  · cases r2
    cases r1 with
    | @lst a vs _ n q s =>
      split at o
      · rename_i hk
        exact .inr (.inl ⟨a, _, vs, rfl, rfl, q, (in63_of hk.1).1, (in63_of hk.1).2, by rw [← s.length]; exact hk.2, fun p hp => Out.new hr (rep_rvs s _) hp (fr p hp) o⟩)
      · exact o.elim
  · cases r2
    cases r1 with
    | @tup a vs _ q s =>
      split at o
      · rename_i k1
        subst k1
        exact .inr (.inr (.inr ⟨a, vs, rfl, rfl, q.sq, Out.same hr (.tup q s) (fun _ _ e => nomatch e) o⟩))
      split at o
      · rename_i hk
        obtain ⟨h0, h1, h2, h3⟩ := hk
        rw [Nat.ble_eq] at h2 h3
        have sl := s.length
        exact .inr (.inr (.inl ⟨a, _, vs, rfl, rfl, q.sq, (fun e => h0 (by rw [sl, e]; rfl)), h1, by omega, by omega, fun p hp => Out.tup hr (rep_rvs s _) hp o⟩))
      · exact o.elim
  · exact o.elim
theorem m_mod {a b : Expr} {ea eb : E} {pos : Pos} (ha : PE X a (tM X W l ea)) (hb : PE X b (tM X W l eb)) : PE X (.BinOp a .Mod b pos) (tM X W l (.bop .mod ea eb)) := by
  refine m_bop op_modN ha hb fun τ φ χ H H0 h d1 d2 v1 v2 Q hr r1 r2 fr o => ?_
  unfold bop at o
  simp only at o
  split at o
  · cases r1; cases r2
    split at o
    · exact o.elim
    · exact ⟨_, _, rfl, rfl, by assumption, Out.same hr (.int _) int_nf o⟩
  · exact o.elim
def CDivX (_ j : Int) : Prop := j ≠ 0 ∧ j.natAbs < 2 ^ 9000
theorem op_fdivX : OpR X (binaryOp .FloorDiv) (rI CDivX fun i j => .int (i.fdiv j)) := opI fun i j _ _ _ _ _ hc q =>
  floordiv_int hc.1 q (.inl (PyProof.noPylong_of_log2 (PySem.Flt.log2_lt_of (by decide) hc.2)))
theorem m_fdiv {a b : Expr} {ea eb : E} {pos : Pos} (ha : PE X a (tM X W l ea)) (hb : PE X b (tM X W l eb)) : PE X (.BinOp a .FloorDiv b pos) (tM X W l (.bop .fdiv ea eb)) := by
  refine m_bop op_fdivX ha hb fun τ φ χ H H0 h d1 d2 v1 v2 Q hr r1 r2 fr o => ?_
  unfold bop at o
  simp only at o
  split at o
  · cases r1; cases r2
    split at o
    · exact o.elim
    · rename_i hs
      rw [not_or] at hs
      exact ⟨_, _, rfl, rfl, ⟨hs.1, small_lt (by simpa using hs.2)⟩, Out.same hr (.int _) int_nf o⟩
  · exact o.elim
theorem m_pow {a b : Expr} {ea eb : E} {pos : Pos} (ha : PE X a (tM X W l ea)) (hb : PE X b (tM X W l eb)) : PE X (.BinOp a .Pow b pos) (tM X W l (.bop .pow ea eb)) := by
  refine m_bop op_pow ha hb fun τ φ χ H H0 h d1 d2 v1 v2 Q hr r1 r2 fr o => ?_
  unfold bop at o
  simp only at o
  split at o
  · cases r1; cases r2
    split at o
    · exact ⟨_, _, rfl, rfl, (by rename_i hh; exact ⟨hh.1, by have := Nat.ble_eq.mp hh.2.1; omega, hh.2.2⟩), Out.same hr (.int _) int_nf o⟩
    · exact o.elim
  · exact o.elim
/-- one subexpression -/
theorem m_one {ea : E} {whole : E} {e : Expr} {t : (V → Hp → VK → Prop)} {f : Hh → D → R D} (hp : PE X e (fun σ H Q => tM X W l ea σ H fun x H1 => t x H1 Q))
    (hev : ∀ σ h, evE l whole σ h = (evE l ea σ h).bind fun x h => f h x)
    (hk : ∀ (τ : L2.St) (φ : List Addr) (χ : Ads) (H H0 : Hp) (h : Hh) (d1 : D) (v1 : V) (Q : VK), HR X.K X.mg φ χ H l h → RV X.K φ χ H d1 v1 → (∀ p, H p = none → H0 p = none) →
      Out X W l τ φ χ H (f h d1) (fun φ' χ' H' d _ => ∀ v, RVf whole.fresh X.K H0 φ' χ' H' d v → Q v H') → t v1 H Q) : PE X e (tM X W l whole) := by
  refine peImp hp fun τ H Q ⟨φ, χ, σ, h, rs, hr, o⟩ => ?_
  rw [hev] at o
  refine tM.of rs hr (o.bind.mono fun φ1 χ1 H1 d1 h1 _ x1 hr1 g1 _ v1 rv1 => ?_)
  exact hk τ φ1 χ1 H1 H h1 d1 v1 Q hr1 rv1 (fun p hn => x1.back hr1 hr hn) g1
theorem m_neg {a : Expr} {ea : E} {pos : Pos} (ha : PE X a (tM X W l ea)) : PE X (.UnaryOp .USub a pos) (tM X W l (.neg ea)) := by
  refine m_one (f := negV) (pe_un un_neg ha) (fun σ h => by conv => lhs; unfold evE) fun τ φ χ H H0 h d1 v1 Q hr r1 fr o => ?_
  unfold negV at o
  split at o
  · cases r1
    exact ⟨_, rfl, Out.same0 hr (.int _) o⟩
  · exact o.elim

/-! ### comparisons -/
theorem m_cmp {a b : Expr} {ea eb : E} {op : CmpOp} {o : Cop} {r : R2} {pos : Pos} (ho : OpR X (compareOp op) r) (hm : behindInMarks op b = false) (ha : PE X a (tM X W l ea)) (hb : PE X b (tM X W l eb))
    (hk : ∀ (τ : L2.St) (φ : List Addr) (χ : Ads) (H H0 : Hp) (h : Hh) (d1 d2 : D) (v1 v2 : V) (Q : VK), HR X.K X.mg φ χ H l h → RV X.K φ χ H d1 v1 → RV X.K φ χ H d2 v2 →
      Out X W l τ φ χ H (cop o h d1 d2) (fun φ' χ' H' d _ => ∀ v, RVf false X.K H0 φ' χ' H' d v → Q v H') → r v1 v2 H Q) :
    PE X (.Compare a [op] [b] pos) (tM X W l (.cmp o ea eb)) :=
  m_two (a := a) (b := b) (pe_cmpR ho ha hb hm) (fun σ h => by conv => lhs; unfold evE) fun τ φ χ H H0 h d1 d2 v1 v2 Q hr r1 r2 _ o => hk τ φ χ H H0 h d1 d2 v1 v2 Q hr r1 r2 o
/-- the reading of a comparison's rule is met -/
def CopOk (X : Cx) (W : WX) (l : List Nat) (o : Cop) (r : R2) : Prop := ∀ (τ : L2.St) (φ : List Addr) (χ : Ads) (H H0 : Hp) (h : Hh) (d1 d2 : D) (v1 v2 : V) (Q : VK), HR X.K X.mg φ χ H l h → RV X.K φ χ H d1 v1 → RV X.K φ χ H d2 v2 →
      Out X W l τ φ χ H (cop o h d1 d2) (fun φ' χ' H' d _ => ∀ v, RVf false X.K H0 φ' χ' H' d v → Q v H') → r v1 v2 H Q
theorem and_true {a b : Bool} (h : (a && b) = true) : a = true ∧ b = true := by simpa using h
theorem ok_eq : CopOk X W l .eq (rEqD X.K) := fun τ φ χ H H0 h d1 d2 v1 v2 Q hr r1 r2 o => by
  unfold cop at o
  simp only at o
  split at o
  · rename_i x y e1 e2
    split at o
    · rename_i hs
      have hs := and_true hs
      exact ⟨x, y, r1.py hr e1, r2.py hr e2, hs.1, hs.2, Out.same0 hr (.bl _) o⟩
    · exact o.elim
  · exact o.elim
theorem ok_ne : CopOk X W l .ne (rNeD X.K) := fun τ φ χ H H0 h d1 d2 v1 v2 Q hr r1 r2 o => by
  unfold cop at o
  simp only at o
  split at o
  · rename_i x y e1 e2
    split at o
    · rename_i hs
      have hs := and_true hs
      exact ⟨x, y, r1.py hr e1, r2.py hr e2, hs.1, hs.2, Out.same0 hr (.bl _) o⟩
    · exact o.elim
  · exact o.elim
theorem lexLt_eq : ∀ ns ms : List Int, HT.lexLt ns ms = lexLt ns ms
  | [], [] => rfl
  | [], _ :: _ => rfl
  | _ :: _, [] => rfl
  | x :: xs, y :: ys => by
    rw [HT.lexLt_cons, lexLt_eq xs ys]; rfl
theorem ok_lt : CopOk X W l .lt (fun x y H Q => (∃ i j, x = .int i ∧ y = .int j ∧ Q (.bl (decide (i < j))) H) ∨ rLtT X.K x y H Q) := fun τ φ χ H H0 h d1 d2 v1 v2 Q hr r1 r2 o => by
  unfold cop at o
  simp only at o
  split at o
  · cases r1; cases r2
    exact .inl ⟨_, _, rfl, rfl, Out.same0 hr (.bl _) o⟩
  · split at o
    · rename_i ns ms e1 e2
      cases r1 with
      | @tup a vs _ t1 s1 =>
        cases r2 with
        | @tup b ws _ t2 s2 =>
          have q1 := s1.intsOf e1
          have q2 := s2.intsOf e2
          subst q1; subst q2
          exact .inr ⟨a, b, ns, ms, rfl, rfl, t1.sq, t2.sq, by rw [lexLt_eq]; exact Out.same0 hr (.bl _) o⟩
    · exact o.elim
  · exact o.elim
theorem ok_le : CopOk X W l .le (rI0 fun i j => .bl (decide (i ≤ j))) := fun τ φ χ H H0 h d1 d2 v1 v2 Q hr r1 r2 o => by
  unfold cop at o
  simp only at o
  split at o
  · cases r1; cases r2
    exact ⟨_, _, rfl, rfl, Out.same0 hr (.bl _) o⟩
  · exact o.elim
theorem ok_ge : CopOk X W l .ge (rI0 fun i j => .bl (decide (j ≤ i))) := fun τ φ χ H H0 h d1 d2 v1 v2 Q hr r1 r2 o => by
  unfold cop at o
  simp only at o
  split at o
  · cases r1; cases r2
    exact ⟨_, _, rfl, rfl, Out.same0 hr (.bl _) o⟩
  · exact o.elim
end
end Mp

set_option maxRecDepth 100000
/-! Mp2d: truths, membership, displays, places. -/
namespace Mp
open PySem PySem.Spec PyProof.Rows L2

section
variable {X : Cx} {W : WX} {l : List Nat} {τ : L2.St} {φ φ' φ1 : List Addr} {χ χ' χ1 : Ads} {H H' H1 H0 : Hp} {h h' : Hh} {α β : Type} {K : PySem.W.Frag} {mg : Str → Option Value}

/-! ### in -/
def rInT (K : PySem.W.Frag) (neg : Bool) : R2 := fun x y H Q => ∃ d ds, Dp K H x d ∧ Dp K H y (.tuple ds) ∧ SeqAt.shaped d = true ∧ SeqAt.shaped (.list ds) = true ∧ Q (.bl (if neg then !ds.any fun z => PyData.eqv z d else ds.any fun z => PyData.eqv z d)) H
theorem shaped_lt {ds : List PyData} (h : SeqAt.shaped (.list ds) = true) : SeqAt.shaped (.tuple ds) = true := by
  simpa [SeqAt.shaped, PyData.canLay0, PyData.depth] using h
theorem op_inT (hu : X.A.units + 65 < cLine) : OpR X (compareOp .In) (rInT X.K false) := by
  intro pins s σ H x y v u Q I rx ry hh
  obtain ⟨d, ds, hd, he, sd, se, q⟩ := hh
  obtain ⟨as, k1⟩ := Dp.reads I d x v hd rx
  obtain ⟨bs, k2⟩ := Dp.reads I (.tuple ds) y u he ry
  exact SeqAt.in_tuple_reads k2 k1 (SeqAt.canLay_of_shaped se) (SeqAt.canLay_of_shaped sd) (room_in_shaped sd hu) ⟨.bl _, H, I, rfl, q⟩
theorem op_notInT (hu : X.A.units + 65 < cLine) : OpR X (compareOp .NotIn) (rInT X.K true) := by
  intro pins s σ H x y v u Q I rx ry hh
  obtain ⟨d, ds, hd, he, sd, se, q⟩ := hh
  obtain ⟨as, k1⟩ := Dp.reads I d x v hd rx
  obtain ⟨bs, k2⟩ := Dp.reads I (.tuple ds) y u he ry
  exact SeqAt.notIn_tuple_reads k2 k1 (SeqAt.canLay_of_shaped se) (SeqAt.canLay_of_shaped sd) (room_in_shaped sd hu) ⟨.bl _, H, I, rfl, q⟩
/-- the items of a sequence as data: of a list or of a tuple -/
theorem RV.seqPy (hr : HR K mg φ χ H l h) {d : D} {v : V} {ys : List PyData} (rv : RV K φ χ H d v) (e : (Mp.seqOf h d).bind (D.pys h) = some ys) : Dp K H v (.list ys) ∨ Dp K H v (.tuple ys) := by
  obtain ⟨ds, e1, e2⟩ := Option.bind_eq_some_iff.mp e
  obtain ⟨a, vs, rfl, q, s⟩ := rv.seqOf hr e1
  rcases q with q | q
  · exact .inl (.lst q (s.py hr e2))
  · exact .inr (.tup q (s.py hr e2))
theorem ok_in : CopOk X W l .inn (fun x y H Q => rInD X.K x y H Q ∨ rInT X.K false x y H Q) := fun τ φ χ H H0 h d1 d2 v1 v2 Q hr r1 r2 o => by
  unfold cop at o
  simp only at o
  split at o
  · rename_i x ys e1 e2
    split at o
    · rename_i hs
      have hs := and_true hs
      have q : Q (.bl (ys.any fun z => PyData.eqv z x)) H := Out.same0 hr (.bl _) o
      rcases r2.seqPy hr e2 with z | z
      · exact .inl ⟨x, ys, r1.py hr e1, z, hs.1, hs.2, q⟩
      · exact .inr ⟨x, ys, r1.py hr e1, z, hs.1, hs.2, q⟩
    · exact o.elim
  · exact o.elim
theorem ok_nin : CopOk X W l .nin (fun x y H Q => rNotInD X.K x y H Q ∨ rInT X.K true x y H Q) := fun τ φ χ H H0 h d1 d2 v1 v2 Q hr r1 r2 o => by
  unfold cop at o
  simp only at o
  split at o
  · rename_i x ys e1 e2
    split at o
    · rename_i hs
      have hs := and_true hs
      have q : Q (.bl (!ys.any fun z => PyData.eqv z x)) H := Out.same0 hr (.bl _) o
      rcases r2.seqPy hr e2 with z | z
      · exact .inl ⟨x, ys, r1.py hr e1, z, hs.1, hs.2, q⟩
      · exact .inr ⟨x, ys, r1.py hr e1, z, hs.1, hs.2, q⟩
    · exact o.elim
  · exact o.elim

/-! ### the order of tuples of whole numbers, turned about -/
theorem lexAt_lt (ns ms : List Int) : ∀ (k i : Nat), k = min ns.length ms.length - i → i ≤ min ns.length ms.length →
    Ob.lexAt (fun j => decide (ns.getD j 0 = ms.getD j 0)) (fun j => decide (ms.getD j 0 < ns.getD j 0)) (decide (ms.length < ns.length)) i k = lexLt (ms.drop i) (ns.drop i) := by
  intro k
  induction k with
  | zero =>
    intro i hk hi
    rw [Ob.lexAt_zero]
    rcases Nat.lt_trichotomy ms.length ns.length with q | q | q
    · have e1 : ms.drop i = [] := List.drop_eq_nil_of_le (by omega)
      rw [e1, decide_eq_true q]
      cases e : ns.drop i with
      | nil => have := congrArg List.length e; simp at this; omega
      | cons a b => rfl
    · have e1 : ms.drop i = [] := List.drop_eq_nil_of_le (by omega)
      have e2 : ns.drop i = [] := List.drop_eq_nil_of_le (by omega)
      rw [e1, e2, decide_eq_false (by omega)]; rfl
    · have e2 : ns.drop i = [] := List.drop_eq_nil_of_le (by omega)
      rw [e2, decide_eq_false (by omega)]
      cases ms.drop i <;> rfl
  | succ k ih =>
    intro i hk hi
    rw [Ob.lexAt_succ]
    have h1 : i < ns.length := by omega
    have h2 : i < ms.length := by omega
    rw [List.drop_eq_getElem_cons h1, List.drop_eq_getElem_cons h2]
    have g1 : ns.getD i 0 = ns[i] := by simp [h1]
    have g2 : ms.getD i 0 = ms[i] := by simp [h2]
    rw [g1, g2, ih (i + 1) (by omega) (by omega)]
    show _ = if ms[i] = ns[i] then _ else _
    by_cases q : ns[i] = ms[i]
    · rw [decide_eq_true q, if_pos rfl, if_pos q.symm]
    · rw [decide_eq_false q, if_neg (by decide), if_neg (fun z => q z.symm)]
def rGtT (K : PySem.W.Frag) : R2 := fun x y H Q => ∃ (a b : Addr) (ns ms : List Int), x = .ref a ∧ y = .ref b ∧ SqT K H a (ns.map V.int) ∧ SqT K H b (ms.map V.int) ∧ Q (.bl (lexLt ms ns)) H
theorem op_gtT (hu : X.A.units < cLine) : OpR X (compareOp .Gt) (rGtT X.K) := by
  intro pins s σ H x y v u Q I rx ry hh
  obtain ⟨a, b, ns, ms, rfl, rfl, ha, hb, q⟩ := hh
  cases rx
  cases ry
  obtain ⟨its, k1, p1, _⟩ := I.tuple ha
  obtain ⟨its2, k2, p2, _⟩ := I.tuple hb
  have i1 := Vals.ints k1
  have i2 := Vals.ints k2
  have z1 : its.toArray.size = ns.length := by simpa using i1.length
  have z2 : its2.toArray.size = ms.length := by simpa using i2.length
  have w1 : ∀ j (g : j < its.toArray.size), ∃ t, its.toArray[j] = .int (ns.getD j 0) t := fun j g => IntsAre.int_at i1 _ _ (by simp at g; simp [g])
  have w2 : ∀ j (g : j < its2.toArray.size), ∃ t, its2.toArray[j] = .int (ms.getD j 0) t := fun j g => IntsAre.int_at i2 _ _ (by simp at g; simp [g])
  have big := Ob.RcOp.tuples_gt (A := X.A) (s := s) (e := fun j => decide (ns.getD j 0 = ms.getD j 0)) (r := fun j => decide (ms.getD j 0 < ns.getD j 0)) p1 p2 hu (fun j g1 g2 => by
    obtain ⟨t, et⟩ := w1 j g1
    obtain ⟨t', et'⟩ := w2 j g2
    rw [et, et']
    have zz : (ns.getD j 0 == ms.getD j 0) = decide (ns.getD j 0 = ms.getD j 0) := by
      by_cases c : ns.getD j 0 = ms.getD j 0
      · rw [decide_eq_true c]; exact beq_iff_eq.mpr c
      · rw [decide_eq_false c]; exact beq_eq_false_iff_ne.mpr c
    rw [← zz]
    exact SeqAt.EqAt.int_int _ _ _ _) (fun j g1 g2 _ => by
    obtain ⟨t, et⟩ := w1 j g1
    obtain ⟨t', et'⟩ := w2 j g2
    rw [et, et']
    exact Ob.RcOp.gt_int _ _ _ _)
  refine big _ _ _ _ ?_
  refine ⟨.bl _, H, I, rfl, ?_⟩
  have zq := lexAt_lt ns ms _ 0 rfl (Nat.zero_le _)
  rw [Nat.sub_zero] at zq
  rw [z1, z2, show decide (ns.length > ms.length) = decide (ms.length < ns.length) from rfl, zq]
  exact q
theorem ok_gt : CopOk X W l .gt (fun x y H Q => (∃ i j, x = .int i ∧ y = .int j ∧ Q (.bl (decide (j < i))) H) ∨ rGtT X.K x y H Q) := fun τ φ χ H H0 h d1 d2 v1 v2 Q hr r1 r2 o => by
  unfold cop at o
  simp only at o
  split at o
  · cases r1; cases r2
    exact .inl ⟨_, _, rfl, rfl, Out.same0 hr (.bl _) o⟩
  · split at o
    · rename_i ns ms e1 e2
      cases r1 with
      | @tup a vs _ t1 s1 =>
        cases r2 with
        | @tup b ws _ t2 s2 =>
          have q1 := s1.intsOf e1
          have q2 := s2.intsOf e2
          subst q1; subst q2
          exact .inr ⟨a, b, ns, ms, rfl, rfl, t1.sq, t2.sq, Out.same0 hr (.bl _) o⟩
    · exact o.elim
  · exact o.elim
/-- the rule of each comparison -/
def rCop (K : PySem.W.Frag) : Cop → R2
  | .eq => rEqD K
  | .ne => rNeD K
  | .lt => fun x y H Q => (∃ i j, x = .int i ∧ y = .int j ∧ Q (.bl (decide (i < j))) H) ∨ rLtT K x y H Q
  | .le => rI0 fun i j => .bl (decide (i ≤ j))
  | .gt => fun x y H Q => (∃ i j, x = .int i ∧ y = .int j ∧ Q (.bl (decide (j < i))) H) ∨ rGtT K x y H Q
  | .ge => rI0 fun i j => .bl (decide (j ≤ i))
  | .inn => fun x y H Q => rInD K x y H Q ∨ rInT K false x y H Q
  | .nin => fun x y H Q => rNotInD K x y H Q ∨ rInT K true x y H Q
def opC : Cop → CmpOp
  | .eq => .Eq | .ne => .NotEq | .lt => .Lt | .le => .LtE | .gt => .Gt | .ge => .GtE | .inn => .In | .nin => .NotIn
theorem cop_op (hu : X.A.units + 65 < cLine) : ∀ o : Cop, OpR X (compareOp (opC o)) (rCop X.K o)
  | .eq => op_eqD (by omega)
  | .ne => op_neD (by omega)
  | .lt => OpR.or op_lt (op_ltT (by omega))
  | .le => op_le
  | .gt => OpR.or op_gt (op_gtT (by omega))
  | .ge => op_ge
  | .inn => OpR.or (op_inD hu) (op_inT hu)
  | .nin => OpR.or (op_notInD hu) (op_notInT hu)
theorem cop_ok : ∀ o : Cop, CopOk X W l o (rCop X.K o)
  | .eq => ok_eq | .ne => ok_ne | .lt => ok_lt | .le => ok_le | .gt => ok_gt | .ge => ok_ge | .inn => ok_in | .nin => ok_nin
theorem m_cmpo {a b : Expr} {ea eb : E} {o : Cop} {pos : Pos} (hu : X.A.units + 65 < cLine) (hm : behindInMarks (opC o) b = false) (ha : PE X a (tM X W l ea)) (hb : PE X b (tM X W l eb)) : PE X (.Compare a [opC o] [b] pos) (tM X W l (.cmp o ea eb)) :=
  m_cmp (cop_op hu o) hm ha hb (cop_ok o)

/-! ### truths -/
/-- a truth by its value, from the value's reading -/
theorem pt_of {e : Expr} {ee : E} (hp : PE X e (tM X W l ee)) (he : ∀ whole, isTrue e X.env whole = (do let v ← whole; standAt e.pos; holding [v] (truthy v))) : PT X e (tMt X W l ee) := by
  refine ptImp (pt_val hp he) fun τ H Q ⟨φ, χ, σ, h, rs, hr, o⟩ => ?_
  refine ⟨φ, χ, σ, h, rs, hr, o.mono fun φ' χ' H' d h' _ x hr' g v rv => ?_⟩
  obtain ⟨b, rfl, q⟩ := g
  cases rv with
  | plain rv _ => cases rv; exact ⟨b, rfl, q⟩
/-- a wish with a truth -/
theorem boolV_out {r : R D} {f : Bool → Hh → R β} {good : List Addr → Ads → Hp → β → Hh → Prop} (o : Out X W l τ φ χ H (r.bind (boolV f)) good) :
    Out X W l τ φ χ H r fun φ' χ' H' d h' => ∃ b, d = .bl b ∧ Out X W l τ φ' χ' H' (f b h') good :=
  o.bind.mono fun φ' χ' H' d h' _ x hr g => by
    unfold boolV at g
    split at g
    · exact ⟨_, rfl, g⟩
    · exact g.elim
/-- a truth's reading, from the whole's outcome -/
theorem tM.ofB {e : E} {σ : Sg} {Q : VK} (rs : RS X.K φ χ H σ τ) (hr : HR X.K X.mg φ χ H l h) (o : Out X W l τ φ χ H (evE l e σ h) fun φ' χ' H' d h' => ∃ b, d = .bl b ∧ (HR X.K X.mg φ' χ' H' l h' → Q (.bl b) H')) : tM X W l e τ H Q :=
  ⟨φ, χ, σ, h, rs, hr, (o.mono fun φ' χ' H' a h' _ x hr' g v rv => by
    obtain ⟨b, rfl, q⟩ := g
    cases rv
    exact q hr').plain hr⟩
theorem tMt.of {e : E} {σ : Sg} {Q : Bool → Hp → Prop} (rs : RS X.K φ χ H σ τ) (hr : HR X.K X.mg φ χ H l h) (o : Out X W l τ φ χ H (evE l e σ h) fun φ' χ' H' d h' => ∃ b, d = .bl b ∧ (HR X.K X.mg φ' χ' H' l h' → Q b H')) : tMt X W l e τ H Q :=
  ⟨φ, χ, σ, h, rs, hr, o.mono fun φ' χ' H' a h' _ x hr' g => by
    obtain ⟨b, rfl, q⟩ := g
    exact ⟨b, rfl, q hr'⟩⟩
/-- the last part's reading -/
theorem tM.last {e : E} {σ : Sg} {Q : VK} {fr : Bool} (rs : RS X.K φ χ H σ τ) (hr : HR X.K X.mg φ χ H l h) (fr0 : ∀ p, H p = none → H0 p = none) (hf : fr = false)
    (o : Out X W l τ φ χ H (evE l e σ h) fun φ' χ' H' d h' => ∀ v, RVf fr X.K H0 φ' χ' H' d v → Q v H') : tM X W l e τ H Q :=
  ⟨φ, χ, σ, h, rs, hr, (o.mono fun φ' χ' H' a h' _ x hr' g v rv => g v (.plain rv (fun q => by rw [hf] at q; cases q))).plain hr⟩
theorem m_not {a : Expr} {ea : E} {pos : Pos} (ha : PE X a (tM X W l ea)) : PE X (.UnaryOp .Not a pos) (tM X W l (.not ea)) := by
  refine peImp (pe_not ha) fun τ H Q ⟨φ, χ, σ, h, rs, hr, o⟩ => ?_
  unfold evE at o
  refine tM.ofB rs hr ((boolV_out o).mono fun φ1 χ1 H1 d h1 _ x hr1 g => ?_)
  obtain ⟨b, rfl, g⟩ := g
  exact ⟨b, rfl, fun _ => ⟨b, rfl, Out.same0 hr1 (.bl _) g⟩⟩
theorem m_notT {a : Expr} {ea : E} {pos : Pos} (ha : PT X a (tMt X W l ea)) : PT X (.UnaryOp .Not a pos) (tMt X W l (.not ea)) := by
  refine ptImp (pt_not ha) fun τ H Q ⟨φ, χ, σ, h, rs, hr, o⟩ => ?_
  unfold evE at o
  refine tMt.of rs hr ((boolV_out o).mono fun φ1 χ1 H1 d h1 _ x hr1 g => ?_)
  obtain ⟨b, rfl, g⟩ := g
  refine ⟨b, rfl, fun _ => ?_⟩
  obtain ⟨c, e, q⟩ := (show ∃ c, D.bl (!b) = .bl c ∧ Q c H1 from g _ _ _ .refl hr1)
  cases e
  exact q
theorem m_and {a b : Expr} {rest : List Expr} {ea eb : E} {pos : Pos} (ha : PE X a (tM X W l ea)) (hb : PE X (.BoolOp .And (b :: rest) pos) (tM X W l eb)) : PE X (.BoolOp .And (a :: b :: rest) pos) (tM X W l (.and ea eb)) := by
  refine peImp (pe_and ha hb) fun τ H Q ⟨φ, χ, σ, h, rs, hr, o⟩ => ?_
  unfold evE at o
  refine tM.ofB rs hr ((boolV_out o).mono fun φ1 χ1 H1 d h1 _ x hr1 g => ?_)
  obtain ⟨c, rfl, g⟩ := g
  refine ⟨c, rfl, fun _ => ⟨c, rfl, ?_⟩⟩
  cases c with
  | true =>
    rw [if_pos rfl] at g ⊢
    exact tM.last (fr := false) (rs.ext x) hr1 (fun p hn => x.back hr1 hr hn) rfl g
  | false =>
    rw [if_neg (by decide)] at g ⊢
    exact Out.same0 hr1 (.bl _) g
theorem m_or {a b : Expr} {rest : List Expr} {ea eb : E} {pos : Pos} (ha : PE X a (tM X W l ea)) (hb : PE X (.BoolOp .Or (b :: rest) pos) (tM X W l eb)) : PE X (.BoolOp .Or (a :: b :: rest) pos) (tM X W l (.or ea eb)) := by
  refine peImp (pe_or ha hb) fun τ H Q ⟨φ, χ, σ, h, rs, hr, o⟩ => ?_
  unfold evE at o
  refine tM.ofB rs hr ((boolV_out o).mono fun φ1 χ1 H1 d h1 _ x hr1 g => ?_)
  obtain ⟨c, rfl, g⟩ := g
  refine ⟨c, rfl, fun _ => ⟨c, rfl, ?_⟩⟩
  cases c with
  | true =>
    rw [if_pos rfl] at g ⊢
    exact Out.same0 hr1 (.bl _) g
  | false =>
    rw [if_neg (by decide)] at g ⊢
    exact tM.last (fr := false) (rs.ext x) hr1 (fun p hn => x.back hr1 hr hn) rfl g
theorem pwImp {e : Expr} {t t' : TT} (p : PW X e t) (k : ∀ τ H Q, t' τ H Q → t τ H Q) : PW X e t' := ⟨fun wh pins s σ H Q I q => p.run wh pins s σ H Q I (k σ H Q q)⟩
theorem m_andW {a b : Expr} {rest : List Expr} {ea eb : E} {pos : Pos} (ha : PT X a (tMt X W l ea)) (hb : PW X (.BoolOp .And (b :: rest) pos) (tMt X W l eb)) : PW X (.BoolOp .And (a :: b :: rest) pos) (tMt X W l (.and ea eb)) := by
  refine pwImp (pw_and ha hb) fun τ H Q ⟨φ, χ, σ, h, rs, hr, o⟩ => ?_
  unfold evE at o
  refine tMt.of rs hr ((boolV_out o).mono fun φ1 χ1 H1 d h1 _ x hr1 g => ?_)
  obtain ⟨c, rfl, g⟩ := g
  refine ⟨c, rfl, fun _ => ?_⟩
  cases c with
  | true =>
    rw [if_pos rfl] at g ⊢
    exact ⟨φ1, χ1, σ, h1, rs.ext x, hr1, g⟩
  | false =>
    rw [if_neg (by decide)] at g ⊢
    obtain ⟨k, e, q⟩ := (show ∃ c, D.bl false = .bl c ∧ Q c H1 from g _ _ _ .refl hr1)
    cases e
    exact q
theorem m_orW {a b : Expr} {rest : List Expr} {ea eb : E} {pos : Pos} (ha : PT X a (tMt X W l ea)) (hb : PW X (.BoolOp .Or (b :: rest) pos) (tMt X W l eb)) : PW X (.BoolOp .Or (a :: b :: rest) pos) (tMt X W l (.or ea eb)) := by
  refine pwImp (pw_or ha hb) fun τ H Q ⟨φ, χ, σ, h, rs, hr, o⟩ => ?_
  unfold evE at o
  refine tMt.of rs hr ((boolV_out o).mono fun φ1 χ1 H1 d h1 _ x hr1 g => ?_)
  obtain ⟨c, rfl, g⟩ := g
  refine ⟨c, rfl, fun _ => ?_⟩
  cases c with
  | true =>
    rw [if_pos rfl] at g ⊢
    obtain ⟨k, e, q⟩ := (show ∃ c, D.bl true = .bl c ∧ Q c H1 from g _ _ _ .refl hr1)
    cases e
    exact q
  | false =>
    rw [if_neg (by decide)] at g ⊢
    exact ⟨φ1, χ1, σ, h1, rs.ext x, hr1, g⟩
/-- comparisons as tests: as values, asked -/
theorem pt_cmpv {e a b : Expr} {o : CmpOp} {t : TE} {pos : Pos} (ee : E) (hp : PT X (.Compare a [o] [b] pos) (tTest t)) (hi : ∀ τ H Q, tM X W l ee τ H Q → t τ H Q) : PT X (.Compare a [o] [b] pos) (tMt X W l ee) := by
  refine ptImp hp fun τ H Q ⟨φ, χ, σ, h, rs, hr, o⟩ => hi τ H _ ⟨φ, χ, σ, h, rs, hr, o.mono fun φ' χ' H' d h' _ x hr' g v rv => ?_⟩
  obtain ⟨b, rfl, q⟩ := g
  cases rv with
  | plain rv _ => cases rv; exact ⟨b, rfl, q⟩
theorem tM.two {ea eb : E} {whole : E} {r : R2} {f : Hh → D → D → R D} 
    (hev : ∀ σ h, evE l whole σ h = (evE l ea σ h).bind fun x h => (evE l eb σ h).bind fun y h => f h x y)
    (hk : ∀ (τ : L2.St) (φ : List Addr) (χ : Ads) (H H0 : Hp) (h : Hh) (d1 d2 : D) (v1 v2 : V) (Q : VK), HR X.K X.mg φ χ H l h → RV X.K φ χ H d1 v1 → RV X.K φ χ H d2 v2 → (∀ p, H p = none → H0 p = none) →
      Out X W l τ φ χ H (f h d1 d2) (fun φ' χ' H' d _ => ∀ v, RVf whole.fresh X.K H0 φ' χ' H' d v → Q v H') → r v1 v2 H Q) :
    ∀ τ H Q, tM X W l whole τ H Q → tOp r (tM X W l ea) (tM X W l eb) τ H Q := by
  intro τ H Q ⟨φ, χ, σ, h, rs, hr, o⟩
  rw [hev] at o
  refine tM.of rs hr (o.bind.mono fun φ1 χ1 H1 d1 h1 _ x1 hr1 g1 _ v1 rv1 => ?_)
  refine tM.of (rs.ext x1) hr1 (g1.bind.mono fun φ2 χ2 H2 d2 h2 _ x2 hr2 g2 _ v2 rv2 => ?_)
  exact hk τ φ2 χ2 H2 H h2 d1 d2 v1 v2 Q hr2 (rv1.ext x2) rv2 (fun p hn => (x1.trans x2).back hr2 hr hn) g2
theorem m_cmpT {a b : Expr} {ea eb : E} {o : Cop} {pos : Pos} (hu : X.A.units + 65 < cLine) (hm : behindInMarks (opC o) b = false) (ha : PE X a (tM X W l ea)) (hb : PE X b (tM X W l eb)) : PT X (.Compare a [opC o] [b] pos) (tMt X W l (.cmp o ea eb)) :=
  pt_cmpv (e := a) (.cmp o ea eb) (pt_cmpR (cop_op hu o) ha hb hm) (tM.two (fun σ h => by conv => lhs; unfold evE) fun τ φ χ H H0 h d1 d2 v1 v2 Q hr r1 r2 _ o' => cop_ok o τ φ χ H H0 h d1 d2 v1 v2 Q hr r1 r2 o')
end
end Mp

set_option maxRecDepth 100000
/-! Mp2e: chains, None, choices, displays, places, slices, types. -/
namespace Mp
open PySem PySem.Spec PyProof.Rows L2

section
variable {X : Cx} {W : WX} {l : List Nat} {τ : L2.St} {φ φ' φ1 : List Addr} {χ χ' χ1 : Ads} {H H' H1 H0 : Hp} {h h' : Hh} {α β : Type} {K : PySem.W.Frag} {mg : Str → Option Value}

/-- .. with the slots' reading at hand -/
theorem tM.to {e : E} {σ : Sg} {Q : VK} (rs : RS X.K φ χ H σ τ) (hr : HR X.K X.mg φ χ H l h)
    (o : Out X W l τ φ χ H (evE l e σ h) fun φ' χ' H' d h' => Ext φ χ H φ' χ' H' → HR X.K X.mg φ' χ' H' l h' → ∀ v, RV X.K φ' χ' H' d v → Q v H') : tM X W l e τ H Q :=
  ⟨φ, χ, σ, h, rs, hr, (o.mono fun φ' χ' H' a h' _ x hr' g => g x hr').plain hr⟩

theorem tM.chain {o p : Cop} {ea eb ec : E} : ∀ τ H Q, tM X W l (.chain o p ea eb ec) τ H Q → tChain (rCop X.K o) (rCop X.K p) (tM X W l ea) (tM X W l eb) (tM X W l ec) τ H Q := by
  intro τ H Q ⟨φ, χ, σ, h, rs, hr, oo⟩
  unfold evE at oo
  refine tM.to rs hr (oo.bind.mono fun φ1 χ1 H1 d1 h1 _ x1 _ g1 _ hr1 v1 rv1 => ?_)
  refine tM.to (rs.ext x1) hr1 (g1.bind.mono fun φ2 χ2 H2 d2 h2 _ x2 _ g2 _ hr2 v2 rv2 => ?_)
  refine cop_ok (W := W) (l := l) o τ φ2 χ2 H2 H2 h2 d1 d2 v1 v2 _ hr2 (rv1.ext x2) rv2 ((boolV_out g2).mono fun φ3 χ3 H3 d3 h3 _ x3 hr3 g3 v3 rv3 => ?_)
  obtain ⟨b, rfl, g3⟩ := g3
  cases rv3 with
  | plain rv3 _ =>
    cases rv3
    refine ⟨b, rfl, ?_⟩
    cases b with
    | false =>
      rw [if_neg (by decide)] at g3 ⊢
      exact Out.same0 (H0 := H) hr3 (.bl _) g3
    | true =>
      rw [if_pos rfl] at g3 ⊢
      refine tM.to (rs.ext ((x1.trans x2).trans x3)) hr3 (g3.bind.mono fun φ4 χ4 H4 d4 h4 _ x4 _ g4 _ hr4 v4 rv4 => ?_)
      exact cop_ok (W := W) (l := l) p τ φ4 χ4 H4 H h4 d2 d4 v2 v4 _ hr4 (rv2.ext (x3.trans x4)) rv4 g4
theorem m_chain {a b c : Expr} {ea eb ec : E} {o p : Cop} {pos : Pos} (hu : X.A.units + 65 < cLine) (hm : behindInMarks (opC p) c = false) (ha : PE X a (tM X W l ea)) (hb : PE X b (tM X W l eb)) (hc : PE X c (tM X W l ec)) :
    PE X (.Compare a [opC o, opC p] [b, c] pos) (tM X W l (.chain o p ea eb ec)) := peImp (pe_chain (cop_op hu o) (cop_op hu p) ha hb hc hm) tM.chain
theorem m_chainT {a b c : Expr} {ea eb ec : E} {o p : Cop} {pos : Pos} (hu : X.A.units + 65 < cLine) (hm : behindInMarks (opC p) c = false) (ha : PE X a (tM X W l ea)) (hb : PE X b (tM X W l eb)) (hc : PE X c (tM X W l ec)) :
    PT X (.Compare a [opC o, opC p] [b, c] pos) (tMt X W l (.chain o p ea eb ec)) := by
  refine ptImp (pt_chain (cop_op hu o) (cop_op hu p) ha hb hc hm) fun τ H Q ⟨φ, χ, σ, h, rs, hr, oo⟩ => tM.chain τ H _ ⟨φ, χ, σ, h, rs, hr, oo.mono fun φ' χ' H' d h' _ x hr' g v rv => ?_⟩
  obtain ⟨b, rfl, q⟩ := g
  cases rv with
  | plain rv _ => cases rv; exact ⟨b, rfl, q⟩

/-! three in a row -/
def tChain3 (r r' r'' : R2) (ta tb tc td : TE) : TE := fun σ H Q => ta σ H fun x H1 => tb σ H1 fun y H2 => r x y H2 fun z H3 => ∃ k, z = .bl k ∧
  (if k = true then tc σ H3 fun w H4 => r' y w H4 fun z' H5 => ∃ k, z' = .bl k ∧ (if k = true then td σ H5 fun v H6 => r'' w v H6 Q else Q (.bl false) H5) else Q (.bl false) H3)
theorem pe_chain3 {op op' op2 : CmpOp} {r r' r'' : R2} {a b c d : Expr} {ta tb tc td : TE} {pos : Pos} (ho : OpR X (compareOp op) r) (ho' : OpR X (compareOp op') r') (ho2 : OpR X (compareOp op2) r'') (ha : PE X a ta) (hb : PE X b tb) (hc : PE X c tc) (hd : PE X d td)
    (hm : lastMarks [op, op', op2] [b, c, d] = false := by with_unfolding_all rfl) : PE X (.Compare a [op, op', op2] [b, c, d] pos) (tChain3 r r' r'' ta tb tc td) := by
  refine ⟨fun pins s σ H Q I h => ?_⟩
  refine Compare_chain (thn (ha.run pins s σ H _ I h) fun v s1 ⟨x, H1, I1, r1, q1⟩ => chain_link (thn (hb.run pins s1 σ H1 _ I1 q1) fun u s2 ⟨y, H2, I2, r2, q2⟩ =>
    thn (ho pins s2 σ H2 x y v u _ I2 r1 r2 q2) fun e s3 ⟨z, H3, I3, r3, k, ek, q3⟩ => ?_)) hm
  subst ek
  cases r3
  refine wpAny_truthy_bool ?_
  cases k with
  | false => exact ite_ff ⟨.bl false, H3, I3, rfl, q3⟩
  | true =>
    refine ite_tt (chain_link (thn (hc.run pins s3 σ H3 _ I3 q3) fun w s4 ⟨z1, H4, I4, r4, q4⟩ => thn (ho' pins s4 σ H4 y z1 u w _ I4 r2 r4 q4) fun e2 s5 ⟨z2, H5, I5, r5, k2, ek2, q5⟩ => ?_))
    subst ek2
    cases r5
    refine wpAny_truthy_bool ?_
    cases k2 with
    | false => exact ite_ff ⟨.bl false, H5, I5, rfl, q5⟩
    | true => exact ite_tt (chain_last (thn (hd.run pins s5 σ H5 _ I5 q5) fun w2 s6 ⟨z3, H6, I6, r6, q6⟩ => ho2 pins s6 σ H6 z1 z3 w w2 Q I6 r4 r6 q6))
theorem tM.chain3 {o p q : Cop} {ea eb ec ed : E} : ∀ τ H Q, tM X W l (.chain3 o p q ea eb ec ed) τ H Q → tChain3 (rCop X.K o) (rCop X.K p) (rCop X.K q) (tM X W l ea) (tM X W l eb) (tM X W l ec) (tM X W l ed) τ H Q := by
  intro τ H Q ⟨φ, χ, σ, h, rs, hr, oo⟩
  unfold evE at oo
  refine tM.to rs hr (oo.bind.mono fun φ1 χ1 H1 d1 h1 _ x1 _ g1 _ hr1 v1 rv1 => ?_)
  refine tM.to (rs.ext x1) hr1 (g1.bind.mono fun φ2 χ2 H2 d2 h2 _ x2 _ g2 _ hr2 v2 rv2 => ?_)
  refine cop_ok (W := W) (l := l) o τ φ2 χ2 H2 H2 h2 d1 d2 v1 v2 _ hr2 (rv1.ext x2) rv2 ((boolV_out g2).mono fun φ3 χ3 H3 d3 h3 _ x3 hr3 g3 v3 rv3 => ?_)
  obtain ⟨b, rfl, g3⟩ := g3
  cases rv3 with
  | plain rv3 _ =>
    cases rv3
    refine ⟨b, rfl, ?_⟩
    cases b with
    | false =>
      rw [if_neg (by decide)] at g3 ⊢
      exact Out.same0 (H0 := H) hr3 (.bl _) g3
    | true =>
      rw [if_pos rfl] at g3 ⊢
      refine tM.to (rs.ext ((x1.trans x2).trans x3)) hr3 (g3.bind.mono fun φ4 χ4 H4 d4 h4 _ x4 _ g4 _ hr4 v4 rv4 => ?_)
      refine cop_ok (W := W) (l := l) p τ φ4 χ4 H4 H4 h4 d2 d4 v2 v4 _ hr4 (rv2.ext (x3.trans x4)) rv4 ((boolV_out g4).mono fun φ5 χ5 H5 d5 h5 _ x5 hr5 g5 v5 rv5 => ?_)
      obtain ⟨b, rfl, g5⟩ := g5
      cases rv5 with
      | plain rv5 _ =>
        cases rv5
        refine ⟨b, rfl, ?_⟩
        cases b with
        | false =>
          rw [if_neg (by decide)] at g5 ⊢
          exact Out.same0 (H0 := H) hr5 (.bl _) g5
        | true =>
          rw [if_pos rfl] at g5 ⊢
          refine tM.to (rs.ext ((((x1.trans x2).trans x3).trans x4).trans x5)) hr5 (g5.bind.mono fun φ6 χ6 H6 d6 h6 _ x6 _ g6 _ hr6 v6 rv6 => ?_)
          exact cop_ok (W := W) (l := l) q τ φ6 χ6 H6 H h6 d4 d6 v4 v6 _ hr6 (rv4.ext (x5.trans x6)) rv6 g6
theorem m_chain3 {a b c d : Expr} {ea eb ec ed : E} {o p q : Cop} {pos : Pos} (hu : X.A.units + 65 < cLine) (hm : behindInMarks (opC q) d = false) (ha : PE X a (tM X W l ea)) (hb : PE X b (tM X W l eb)) (hc : PE X c (tM X W l ec)) (hd : PE X d (tM X W l ed)) :
    PE X (.Compare a [opC o, opC p, opC q] [b, c, d] pos) (tM X W l (.chain3 o p q ea eb ec ed)) := peImp (pe_chain3 (cop_op hu o) (cop_op hu p) (cop_op hu q) ha hb hc hd hm) tM.chain3
theorem isNon_eq {d : D} {v : V} (r : RV K φ χ H d v) : isNon d = decide (v = .non) := by
  cases r <;> rfl
theorem m_isN {a : Expr} {ea : E} {j : Nat} {p pos : Pos} (ha : PE X a (tM X W l ea)) : PE X (.Compare a [.Is] [.Constant .none j p] pos) (tM X W l (.isN ea)) := by
  refine peImp (pe_cmp (pc_isN ha) rfl) fun τ H Q ⟨φ, χ, σ, h, rs, hr, o⟩ => ?_
  unfold evE at o
  refine tM.to rs hr (o.bind.mono fun φ1 χ1 H1 d1 h1 _ x1 _ g1 _ hr1 v1 rv1 => ?_)
  rw [isNon_eq rv1] at g1
  exact Out.same0 hr1 (.bl _) g1
theorem m_notN {a : Expr} {ea : E} {j : Nat} {p pos : Pos} (ha : PE X a (tM X W l ea)) : PE X (.Compare a [.IsNot] [.Constant .none j p] pos) (tM X W l (.notN ea)) := by
  refine peImp (pe_cmp (pc_notN ha) rfl) fun τ H Q ⟨φ, χ, σ, h, rs, hr, o⟩ => ?_
  unfold evE at o
  refine tM.to rs hr (o.bind.mono fun φ1 χ1 H1 d1 h1 _ x1 _ g1 _ hr1 v1 rv1 => ?_)
  rw [isNon_eq rv1] at g1
  exact Out.same0 hr1 (.bl _) g1
theorem m_isNT {a : Expr} {ea : E} {j : Nat} {p pos : Pos} (ha : PE X a (tM X W l ea)) : PT X (.Compare a [.Is] [.Constant .none j p] pos) (tMt X W l (.isN ea)) := by
  refine ptImp (pt_cmp (pc_isN ha) rfl) fun τ H Q ⟨φ, χ, σ, h, rs, hr, o⟩ => ?_
  unfold evE at o
  refine tM.to rs hr (o.bind.mono fun φ1 χ1 H1 d1 h1 _ x1 _ g1 _ hr1 v1 rv1 => ?_)
  obtain ⟨b, e, q⟩ := (show ∃ c, D.bl (isNon d1) = .bl c ∧ Q c H1 from g1 _ _ _ .refl hr1)
  cases e
  exact ⟨_, rfl, by rw [← isNon_eq rv1]; exact q⟩
theorem m_notNT {a : Expr} {ea : E} {j : Nat} {p pos : Pos} (ha : PE X a (tM X W l ea)) : PT X (.Compare a [.IsNot] [.Constant .none j p] pos) (tMt X W l (.notN ea)) := by
  refine ptImp (pt_cmp (pc_notN ha) rfl) fun τ H Q ⟨φ, χ, σ, h, rs, hr, o⟩ => ?_
  unfold evE at o
  refine tM.to rs hr (o.bind.mono fun φ1 χ1 H1 d1 h1 _ x1 _ g1 _ hr1 v1 rv1 => ?_)
  obtain ⟨b, e, q⟩ := (show ∃ c, D.bl (!isNon d1) = .bl c ∧ Q c H1 from g1 _ _ _ .refl hr1)
  cases e
  exact ⟨_, rfl, by rw [← isNon_eq rv1]; exact q⟩
/-- is True, is False -/
def rIsB2 : R2 := fun x y H Q => ∃ b : Bool, y = .bl b ∧ ((∃ a : Bool, x = .bl a ∧ Q (.bl (decide (a = b))) H) ∨ (x = .non ∧ Q (.bl false) H))
def rNotB2 : R2 := fun x y H Q => ∃ b : Bool, y = .bl b ∧ ((∃ a : Bool, x = .bl a ∧ Q (.bl (!decide (a = b))) H) ∨ (x = .non ∧ Q (.bl true) H))
theorem op_isB2 : OpR X (compareOp .Is) rIsB2 := by
  intro pins s σ H x y v u Q I rx ry hh
  obtain ⟨b, rfl, ⟨a, rfl, q⟩ | ⟨rfl, q⟩⟩ := hh
  · exact op_isBl pins s σ H _ _ v u Q I rx ry ⟨a, b, rfl, rfl, q⟩
  · cases rx; cases ry
    exact wpAny_is_other rfl (fun z => nomatch z) ⟨.bl false, H, I, rfl, q⟩
theorem op_notB2 : OpR X (compareOp .IsNot) rNotB2 := by
  intro pins s σ H x y v u Q I rx ry hh
  obtain ⟨b, rfl, ⟨a, rfl, q⟩ | ⟨rfl, q⟩⟩ := hh
  · exact op_notBl pins s σ H _ _ v u Q I rx ry ⟨a, b, rfl, rfl, q⟩
  · cases rx; cases ry
    exact wpAny_isNot_other rfl (fun z => nomatch z) ⟨.bl true, H, I, rfl, q⟩
theorem tM.isB {ea : E} {b : Bool} : ∀ τ H Q, tM X W l (.isB ea b) τ H Q → tOp rIsB2 (tM X W l ea) (tC (.bl b)) τ H Q := by
  intro τ H Q ⟨φ, χ, σ, h, rs, hr, o⟩
  unfold evE at o
  refine tM.to rs hr (o.bind.mono fun φ1 χ1 H1 d1 h1 _ x1 _ g1 _ hr1 v1 rv1 => ⟨b, rfl, ?_⟩)
  unfold isBV at g1
  split at g1
  · cases rv1; exact .inl ⟨_, rfl, Out.same0 (H0 := H) hr1 (.bl _) g1⟩
  · cases rv1; exact .inr ⟨rfl, Out.same0 (H0 := H) hr1 (.bl _) g1⟩
  · exact g1.elim
theorem tM.notB {ea : E} {b : Bool} : ∀ τ H Q, tM X W l (.notB ea b) τ H Q → tOp rNotB2 (tM X W l ea) (tC (.bl b)) τ H Q := by
  intro τ H Q ⟨φ, χ, σ, h, rs, hr, o⟩
  unfold evE at o
  refine tM.to rs hr (o.bind.mono fun φ1 χ1 H1 d1 h1 _ x1 _ g1 _ hr1 v1 rv1 => ⟨b, rfl, ?_⟩)
  unfold notBV at g1
  split at g1
  · cases rv1; exact .inl ⟨_, rfl, Out.same0 (H0 := H) hr1 (.bl _) g1⟩
  · cases rv1; exact .inr ⟨rfl, Out.same0 (H0 := H) hr1 (.bl _) g1⟩
  · exact g1.elim
theorem m_isB {a : Expr} {ea : E} {b : Bool} {j : Nat} {p pos : Pos} (ha : PE X a (tM X W l ea)) : PE X (.Compare a [.Is] [.Constant (.bool b) j p] pos) (tM X W l (.isB ea b)) := peImp (pe_cmpR op_isB2 ha pe_bl rfl) tM.isB
theorem m_notB {a : Expr} {ea : E} {b : Bool} {j : Nat} {p pos : Pos} (ha : PE X a (tM X W l ea)) : PE X (.Compare a [.IsNot] [.Constant (.bool b) j p] pos) (tM X W l (.notB ea b)) := peImp (pe_cmpR op_notB2 ha pe_bl rfl) tM.notB
theorem m_isBT {a : Expr} {ea : E} {b : Bool} {j : Nat} {p pos : Pos} (ha : PE X a (tM X W l ea)) : PT X (.Compare a [.Is] [.Constant (.bool b) j p] pos) (tMt X W l (.isB ea b)) := pt_cmpv (e := a) _ (pt_cmpR op_isB2 ha pe_bl rfl) tM.isB
theorem m_notBT {a : Expr} {ea : E} {b : Bool} {j : Nat} {p pos : Pos} (ha : PE X a (tM X W l ea)) : PT X (.Compare a [.IsNot] [.Constant (.bool b) j p] pos) (tMt X W l (.notB ea b)) := pt_cmpv (e := a) _ (pt_cmpR op_notB2 ha pe_bl rfl) tM.notB

theorem m_ite {c a b : Expr} {ec ea eb : E} {pos : Pos} (hc : PT X c (tMt X W l ec)) (ha : PE X a (tM X W l ea)) (hb : PE X b (tM X W l eb)) : PE X (.IfExp c a b pos) (tM X W l (.ite ec ea eb)) := by
  refine peImp (pe_ifExp hc ha hb) fun τ H Q ⟨φ, χ, σ, h, rs, hr, o⟩ => ?_
  unfold evE at o
  refine tMt.of rs hr ((boolV_out o).mono fun φ1 χ1 H1 d h1 _ x hr1 g => ?_)
  obtain ⟨k, rfl, g⟩ := g
  refine ⟨k, rfl, fun _ => ?_⟩
  cases k with
  | true =>
    rw [if_pos rfl] at g ⊢
    exact tM.last (fr := false) (rs.ext x) hr1 (fun p hn => x.back hr1 hr hn) rfl g
  | false =>
    rw [if_neg (by decide)] at g ⊢
    exact tM.last (fr := false) (rs.ext x) hr1 (fun p hn => x.back hr1 hr hn) rfl g

/-! ### argument lists -/
theorem m_nil : PA X [] (tMs X W l .nil) := paImp pa_nil fun τ H Q ⟨φ, χ, σ, h, rs, hr, o⟩ => by
  unfold evL at o
  exact o _ _ _ .refl hr [] .nil
theorem tMs.of {es : EL} {σ : Sg} {Q : List V → Hp → Prop} (rs : RS X.K φ χ H σ τ) (hr : HR X.K X.mg φ χ H l h)
    (o : Out X W l τ φ χ H (evL l es σ h) fun φ' χ' H' ds h' => Ext φ χ H φ' χ' H' → HR X.K X.mg φ' χ' H' l h' → ∀ vs, RVs X.K φ' χ' H' ds vs → Q vs H') : tMs X W l es τ H Q :=
  ⟨φ, χ, σ, h, rs, hr, o.mono fun φ' χ' H' a h' _ x hr' g => g x hr'⟩
theorem m_cons {a : Expr} {as : List Expr} {e : E} {es : EL} (ha : PE X a (tM X W l e)) (hs : PA X as (tMs X W l es)) (hst : starEach (a :: as) X.env = (false, eval a X.env) :: starEach as X.env) : PA X (a :: as) (tMs X W l (.cons e es)) := by
  refine paImp (pa_cons ha hs hst) fun τ H Q ⟨φ, χ, σ, h, rs, hr, o⟩ => ?_
  unfold evL at o
  refine tM.to rs hr (o.bind.mono fun φ1 χ1 H1 d1 h1 _ x1 _ g1 _ hr1 v1 rv1 => ?_)
  refine tMs.of (rs.ext x1) hr1 (g1.bind.mono fun φ2 χ2 H2 ds h2 _ x2 _ g2 _ hr2 vs rvs => ?_)
  exact g2 _ _ _ .refl hr2 (v1 :: vs) (.cons (rv1.ext x2) rvs)
theorem m_tup {as : List Expr} {es : EL} {k : Nat} {pos : Pos} (hs : PA X as (tMs X W l es)) : PE X (.Tuple as k pos) (tM X W l (.tup es)) := by
  refine peImp (pe_tup hs) fun τ H Q ⟨φ, χ, σ, h, rs, hr, o⟩ => ?_
  unfold evE at o
  refine tMs.of rs hr (o.bind.mono fun φ1 χ1 H1 ds h1 _ x1 _ g1 _ hr1 vs rvs => ?_)
  split at g1
  · rename_i hl
    exact ⟨by rw [← rvs.length]; exact hl, fun p hp => Out.tup hr1 rvs hp g1⟩
  · exact g1.elim
theorem m_lst {as : List Expr} {es : EL} {pos : Pos} (hs : PA X as (tMs X W l es)) : PE X (.List as pos) (tM X W l (.lst es)) := by
  refine peImp (pe_lst hs) fun τ H Q ⟨φ, χ, σ, h, rs, hr, o⟩ => ?_
  unfold evE at o
  refine tMs.of rs hr (o.bind.mono fun φ1 χ1 H1 ds h1 _ x1 _ g1 _ hr1 vs rvs => ?_)
  split at g1
  · rename_i hl
    exact ⟨by rw [← rvs.length]; exact hl, fun p hp => Out.new hr1 rvs hp (x1.back hr1 hr hp) g1⟩
  · exact g1.elim

/-! ### places and slices -/
theorem ixAt_eq (n : Nat) (i : Int) : ixN n i = ixAt n i := rfl
theorem atD_atI {ds : List D} {vs : List V} (r : RVs K φ χ H ds vs) {i : Int} {d : D} (e : atD ds i = some d) : ∃ v, atI vs i = some v ∧ RV K φ χ H d v := by
  unfold atD at e
  obtain ⟨j, e1, e2⟩ := Option.bind_eq_some_iff.mp e
  obtain ⟨v, q1, q2⟩ := r.get e2
  exact ⟨v, by unfold atI; rw [ixAt_eq, ← r.length, e1]; exact q1, q2⟩
theorem m_ix {a b : Expr} {ea eb : E} {pos : Pos} (hs : PlainIx b) (ha : PE X a (tM X W l ea)) (hb : PE X b (tM X W l eb)) : PE X (.Subscript a b pos) (tM X W l (.ix ea eb)) := by
  refine m_two (a := a) (b := b) (f := ixV) (pe_ix ix_seq ha hb hs) (fun σ h => by conv => lhs; unfold evE) fun τ φ χ H H0 h d1 d2 v1 v2 Q hr r1 r2 _ o => ?_
  unfold ixV at o
  split at o
  · split at o
    · rename_i s i c e
      split at o
      · rename_i hl
        cases r1; cases r2
        exact .inr (.inr ⟨_, _, _, rfl, rfl, hl, e, Out.same0 hr (.str _) o⟩)
      · exact o.elim
    · exact o.elim
  · split at o
    · rename_i x i hne d e
      cases r2
      obtain ⟨xs, e1, e2⟩ := Option.bind_eq_some_iff.mp e
      obtain ⟨p, vs, rfl, q, s⟩ := r1.seqOf hr e1
      obtain ⟨v, q1, q2⟩ := atD_atI s e2
      have qq : Q v H := Out.same0 hr q2 o
      rcases q with q | q
      · exact .inl ⟨p, vs, _, v, rfl, rfl, q, q1, qq⟩
      · exact .inr (.inl ⟨p, vs, _, v, rfl, rfl, q, q1, qq⟩)
    · exact o.elim
  · exact o.elim
theorem cutIx_eq (n d : Nat) (o : Option Int) : HT.sIx n d o = cutIx n d o := rfl
theorem cut_rvs {ds : List D} {vs : List V} (r : RVs K φ χ H ds vs) (lo hi : Option Int) : RVs K φ χ H (cut ds lo hi) (cutV vs lo hi) := by
  unfold cut cutV
  rw [cutIx_eq, cutIx_eq, ← r.length]
  exact (r.drop _).take _
theorem cutV_whole {vs : List V} {lo hi : Option Int} (hw : HT.sIx vs.length 0 lo = 0 ∧ HT.sIx vs.length vs.length hi = vs.length) : cutV vs lo hi = vs := by
  unfold cutV
  rw [hw.1, hw.2]
  simp
/-- an optional part's reading -/
def tMo (X : Cx) (W : WX) (l : List Nat) (e : E) : TO := fun τ H Q => ∃ φ χ σ h, RS X.K φ χ H σ τ ∧ HR X.K X.mg φ χ H l h ∧
  Out X W l τ φ χ H (evE l e σ h) fun _ _ H' d _ => ∃ o, (isNo e = true ∧ o = none ∨ isNo e = false ∧ ∃ i, d = .int i ∧ o = some i) ∧ Q o H'
theorem m_noPart : PO X none (tMo X W l .no) := ⟨fun pins s σ H Q I q => po_none.run pins s σ H Q I (by
  obtain ⟨φ, χ, σ', h, rs, hr, o⟩ := q
  unfold evE at o
  obtain ⟨o', e, q⟩ := o _ _ _ .refl hr
  rcases e with ⟨_, rfl⟩ | ⟨e, _⟩
  · exact q
  · cases e)⟩
theorem m_part {a : Expr} {ea : E} (hno : isNo ea = false) (ha : PE X a (tM X W l ea)) : PO X (some a) (tMo X W l ea) := ⟨fun pins s σ H Q I q => (po_some ha).run pins s σ H Q I (by
  obtain ⟨φ, χ, σ', h, rs, hr, o⟩ := q
  refine tM.to rs hr (o.mono fun φ1 χ1 H1 d1 h1 _ x1 hr1 g _ _ v rv => ?_)
  obtain ⟨o', e, q⟩ := g
  rcases e with ⟨e, rfl⟩ | ⟨_, i, rfl, rfl⟩
  · rw [hno] at e; cases e
  · cases rv; exact ⟨i, rfl, q⟩)⟩
theorem optV_out {n : Bool} {r : R D} {f : Option Int → Hh → R β} {good : List Addr → Ads → Hp → β → Hh → Prop} (o : Out X W l τ φ χ H (r.bind (optV n f)) good) :
    Out X W l τ φ χ H r fun φ' χ' H' d h' => ∃ o, (n = true ∧ o = none ∨ n = false ∧ ∃ i, d = .int i ∧ o = some i) ∧ Out X W l τ φ' χ' H' (f o h') good :=
  o.bind.mono fun φ' χ' H' d h' _ x hr g => by
    unfold optV at g
    split at g
    · exact ⟨none, .inl ⟨rfl, rfl⟩, g⟩
    · exact ⟨some _, .inr ⟨rfl, _, rfl, rfl⟩, g⟩
    · exact g.elim
theorem tMo.of {e : E} {σ : Sg} {Q : Option Int → Hp → Prop} (rs : RS X.K φ χ H σ τ) (hr : HR X.K X.mg φ χ H l h)
    (o : Out X W l τ φ χ H (evE l e σ h) fun φ' χ' H' d h' => ∃ o, (isNo e = true ∧ o = none ∨ isNo e = false ∧ ∃ i, d = .int i ∧ o = some i) ∧ (Ext φ χ H φ' χ' H' → HR X.K X.mg φ' χ' H' l h' → Q o H')) : tMo X W l e τ H Q :=
  ⟨φ, χ, σ, h, rs, hr, o.mono fun φ' χ' H' a h' _ x hr' ⟨o, e, g⟩ => ⟨o, e, g x hr'⟩⟩
theorem m_sl {a : Expr} {lo hi : Option Expr} {ea el eh : E} {p2 pos : Pos} (ha : PE X a (tM X W l ea)) (hl : PO X lo (tMo X W l el)) (hh : PO X hi (tMo X W l eh)) : PE X (.Subscript a (.Slice lo hi none p2) pos) (tM X W l (.sl ea el eh)) := by
  refine peImp (pe_slice (SlR.or sl_tupA sl_list) ha hl hh) fun τ H Q ⟨φ, χ, σ, h, rs, hr, o⟩ => ?_
  unfold evE at o
  refine tM.to rs hr (o.bind.mono fun φ1 χ1 H1 d1 h1 _ x1 _ g1 _ hr1 v1 rv1 => ?_)
  refine tMo.of (rs.ext x1) hr1 ((optV_out g1).mono fun φ2 χ2 H2 d2 h2 _ x2 _ ⟨i, ei, g2⟩ => ⟨i, ei, fun _ hr2 => ?_⟩)
  refine tMo.of (rs.ext (x1.trans x2)) hr2 ((optV_out g2).mono fun φ3 χ3 H3 d3 h3 _ x3 _ ⟨j, ej, g3⟩ => ⟨j, ej, fun _ hr3 => ?_⟩)
  have x := x1.trans (x2.trans x3)
  have rv := rv1.ext (x2.trans x3)
  unfold slV at g3
  split at g3
  · cases rv with
    | @tup p vs _ t s =>
      have sc := cut_rvs s i j
      refine .inl ⟨p, vs, rfl, t.sq, fun hw => ?_, fun hw q hq => Out.tup hr3 sc hq g3⟩
      rw [cutV_whole hw] at sc
      exact Out.same hr3 (.tup t sc) (fun _ _ e => nomatch e) g3
  · exact g3.elim
  · split at g3
    · rename_i xs e
      obtain ⟨p, vs, rfl, q, s⟩ := rv.listOf hr3 e
      exact .inr ⟨p, vs, rfl, q, fun q hq => Out.new hr3 (cut_rvs s i j) hq (x.back hr3 hr hq) g3⟩
    · exact g3.elim
/-- a list of ours from now on -/
theorem HR.take_in {p : Addr} {ds : List D} {vs : List V} (hr1 : HR K mg φ χ H l h) (c1 : χ p) (c2 : p ∉ φ) (c4 : H p = some (.lst vs)) (c5 : RVs K φ χ H ds vs) : HR K mg (φ ++ [p]) χ H l (h ++ [.lst ds]) := by
  have x2 : ExtW φ χ H (φ ++ [p]) χ H := ⟨⟨[p], rfl⟩, fun _ q => q, fun _ q n => absurd q n, fun _ _ _ q => q, fun _ _ q => q, fun _ _ _ q => q⟩
  refine ⟨by rw [List.length_append, List.length_append, hr1.len]; rfl, ?_, fun a ha => ?_, fun n a o e1 e2 => ?_, fun b hb n o hn e => ?_, fun b hb => ?_, hr1.ch⟩
  · rw [List.nodup_append]
    refine ⟨hr1.nd, by simp, fun a ha b hb e => ?_⟩
    rw [List.mem_singleton] at hb
    rw [e, hb] at ha
    exact c2 ha
  · rcases List.mem_append.mp ha with q | q
    · exact hr1.sub a q
    · rw [List.mem_singleton] at q; rw [q]; exact c1
  · by_cases hn : n < φ.length
    · rw [List.getElem?_append_left hn] at e1
      rw [List.getElem?_append_left (by rw [← hr1.len]; exact hn)] at e2
      exact (hr1.ob n a o e1 e2).extW x2 rfl
    · rw [List.getElem?_append_right (by omega)] at e1
      rw [List.getElem?_append_right (by rw [← hr1.len]; omega)] at e2
      rw [← hr1.len] at e2
      cases hk : n - φ.length with
      | zero =>
        rw [hk] at e1 e2
        simp at e1 e2
        subst e1; subst e2
        exact .lst c4 (c5.extW x2)
      | succ k => rw [hk] at e1; simp at e1
  · have hb' := hr1.top b hb
    rw [List.getElem?_append_left (by omega)] at e
    exact hr1.lim b hb n o hn e
  · have hb' := hr1.top b hb
    rw [List.length_append]
    omega
theorem m_alloc {a : Expr} {ea : E} (hf : ea.fresh = true) (ha : PE X a (tM X W l ea)) : PE X a (tM X W l (.alloc ea)) := by
  refine peImp ha fun τ H Q ⟨φ, χ, σ, h, rs, hr, o⟩ => ?_
  unfold evE at o
  refine ⟨φ, χ, σ, h, rs, hr, ?_⟩
  cases e : evE l ea σ h with
  | bad => rw [e] at o; exact o
  | ex x fs h' => rw [e] at o; exact o
  | ok d1 h1 =>
    rw [e] at o
    intro φ1 χ1 H1 x1 hr1 v rv
    have o : Out X W l τ φ χ H (allocV h1 d1) _ := o
    unfold allocV at o
    split at o
    · cases rv with
      | plain rv hn => exact absurd rfl (hn hf _)
      | @new p ds vs _ c1 c2 c3 c4 c5 =>
        have x2 : Ext φ χ H (φ1 ++ [p]) χ1 H1 := by
          refine ⟨⟨?_, x1.sub, x1.new, x1.keep, x1.tups, x1.frl⟩, x1.kp, fun a ha hn => ?_⟩
          · obtain ⟨r, er⟩ := x1.pre
            exact ⟨r ++ [p], by rw [er, List.append_assoc]⟩
          · rcases List.mem_append.mp ha with q | q
            · exact x1.fr a q hn
            · rw [List.mem_singleton] at q; rw [q]; exact c3
        exact o _ χ1 H1 x2 (hr1.take_in c1 c2 c4 c5) _ (.plain (.ref (by rw [← hr1.len, List.getElem?_append_right (Nat.le_refl _), Nat.sub_self]; rfl)) (fun q => by cases q))
    · exact o.elim
end
end Mp

set_option maxRecDepth 100000
set_option maxHeartbeats 4000000
/-! Mp2k: sorted(t), t a tuple of ints. -/
namespace MpK
open PySem PyProof.Rows Srt SrtO
section
variable {prog : Program} {w : World} {A : Around} {E : Value → Shared → Prop} {s : Shared} {t : Addr} {vs : List Value}
/-- what stands behind the collected items -/
abbrev gathered (h : Heap) (vs : List Value) : Heap := (h.push (seqObj "list" #[] 0)).update h.objs.size (Obj.mapSeq (· ++ vs.toArray))
theorem gather_tuple {Q : List Value → Shared → Prop} (it : IsTup s.heap t vs.toArray) (small : vs.length ≤ sizeLine) (next : Q vs { s with heap := gathered s.heap vs }) : wpAny (model prog w) A (collect (.ref t)) Q E s := by
  obtain ⟨ob, here, isT, m, dat⟩ := id it
  unfold collect
  refine wpAny_bind (wpAny_runValue (codeAny_builtin entry_proto_collect' ?_))
  show wpAny _ _ (do again (.builtin "list.__iadd__" ⟨[← newList [], .ref t], []⟩)) _ _ s
  refine wpAny_bind (wpAny_newList (wpAny_pure ⟨Code.quiet_builtin _ (by decide +kernel), codeAny_builtin entry_list_iadd' ?_⟩) (Nat.zero_le _))
  show wpAny _ _ (Builtin.List.listExtendWith (.ref s.heap.objs.size) (.ref t) (.ref s.heap.objs.size)) _ _ { s with heap := s.heap.push (seqObj "list" #[] 0) }
  unfold Builtin.List.listExtendWith
  have there : (s.heap.push (seqObj "list" #[] 0)).get? t = some ob := Heap.get?_push_of_some _ here
  refine wpAny_bind (wpAny_typeOf (T := "tuple") ⟨ob, there, isT⟩ ?_)
  have same : (Value.type "tuple" == Value.type "tuple") = true := by rfl
  rw [if_pos (by rw [same]; simp)]
  refine wpAny_bind (listItems_at there dat ?_)
  have fresh : (s.heap.push (seqObj "list" #[] 0)).get? s.heap.objs.size = some (seqObj "list" #[] 0) := Heap.get?_push_size _ rfl
  refine wpAny_bind (listItems_at (xs := #[]) (n := 0) fresh rfl ?_)
  rw [if_neg (by simp)]
  have fits : (#[] ++ vs.toArray).size ≤ sizeLine + 1 := by simp only [Array.size_append, List.size_toArray, List.length_nil]; omega
  refine wpAny_bind (listUpdate_at (xs := #[]) (n := 0) fresh rfl ?_ (Nat.zero_le _) fits)
  refine wpAny_pure ?_
  refine wpAny_bind (wpAny_load (get?_update_seq fresh _) ?_)
  show wpAny _ _ (pure ((#[] : Array Value) ++ vs.toArray).toList) Q E _
  have items : ((#[] : Array Value) ++ vs.toArray).toList = vs := by simp
  rw [items]
  exact wpAny_pure next
/-- the new list stands at size + 1 -/
theorem sorted_tuple {lt : Value → Value → Bool} {Q : Value → Shared → Prop} (O : Swo lt) (it : IsTup s.heap t vs.toArray) (small : vs.length ≤ sizeLine)
    (can : 2 ≤ vs.length → ∀ (g : Heap) (a : Addr), g.get? a = some (seqObj "list" vs.toArray 0) → (∀ b o, s.heap.get? b = some o → b ≠ a ∧ g.get? b = some o) → SortableO prog w A.in1.in1 { s with heap := g } a vs lt)
    (next : ∀ out : List Value, Srtd lt out → Stb lt out vs → Q (.ref (s.heap.objs.size + 1)) { s with heap := sortedAll s.heap vs out.toArray }) : wpAny (model prog w) A (call (.builtin "sorted") [.ref t]) Q E s := by
  refine Calls.call_function_entry kind_sorted plain_sorted entry_sorted (args_sorted1 _) ?_
  unfold Builtin.«sorted»
  refine wpAny_bind (m := checkCount "sorted" 1 1 _) (wpAny_pure ?_)
  refine wpAny_bind (gather_tuple it small ?_)
  refine wpAny_bind (wpAny_newList ?_ small)
  have many : (gathered s.heap vs).objs.size = s.heap.objs.size + 1 := by rw [Heap.size_update, size_push']
  have lies : ((gathered s.heap vs).push (seqObj "list" vs.toArray 0)).get? (s.heap.objs.size + 1) = some (seqObj "list" vs.toArray 0) := by rw [← many]; exact Heap.get?_push_size _ rfl
  have stays : ∀ b o, s.heap.get? b = some o → b ≠ s.heap.objs.size + 1 ∧ ((gathered s.heap vs).push (seqObj "list" vs.toArray 0)).get? b = some o := fun b o q => by
    have low : b < s.heap.objs.size := Heap.lt_size q
    refine ⟨Nat.ne_of_lt (Nat.lt_succ_of_lt low), Heap.get?_push_of_some _ ?_⟩
    rw [Heap.get?_update_ne _ _ _ _ (Nat.ne_of_lt low)]; exact Heap.get?_push_of_some _ q
  show wpAny _ _ _ _ _ { s with heap := (gathered s.heap vs).push (seqObj "list" vs.toArray 0) }
  rw [many]
  refine wpAny_bind (wpAny_holding (wpAny_call_entry slot_list_sort ⟨_, lies, rfl⟩ entry_list_sort (list_sort_ord O lies small (fun h2 => can h2 _ _ lies stays) fun out hs hb => ⟨_, rfl, ?_⟩) (args_list_sort _)))
  exact wpAny_pure ⟨_, rfl, next out hs hb⟩
end
end MpK

set_option maxRecDepth 100000
/-! Mp2f: built-in functions and methods. -/
namespace Mp
open PySem PySem.Spec PyProof.Rows L2

section
variable {X : Cx} {W : WX} {l : List Nat} {τ : L2.St} {φ φ' φ1 : List Addr} {χ χ' χ1 : Ads} {H H' H1 H0 : Hp} {h h' : Hh} {α β : Type} {K : PySem.W.Frag} {mg : Str → Option Value}

/-- what a built-in function's rule asks is met -/
def BltOk (X : Cx) (W : WX) (l : List Nat) (b : Blt) (r : List V → Hp → VK → Prop) : Prop := ∀ (τ : L2.St) (φ : List Addr) (χ : Ads) (H H0 : Hp) (h : Hh) (ds : List D) (vs : List V) (Q : VK), HR X.K X.mg φ χ H l h → RVs X.K φ χ H ds vs → (∀ p, H p = none → H0 p = none) →
      Out X W l τ φ χ H (blt b h ds) (fun φ' χ' H' d _ => ∀ v, RVf b.fresh X.K H0 φ' χ' H' d v → Q v H') → r vs H Q
theorem m_blt {b : Blt} {es : EL} {e : Expr} {r : List V → Hp → VK → Prop} (hp : PE X e (tCB r (tMs X W l es))) (hk : BltOk X W l b r) : PE X e (tM X W l (.blt b es)) := by
  refine peImp hp fun τ H Q ⟨φ, χ, σ, h, rs, hr, o⟩ => ?_
  unfold evE at o
  refine tMs.of rs hr (o.bind.mono fun φ1 χ1 H1 ds h1 _ x1 _ g1 _ hr1 vs rvs => ?_)
  exact hk τ φ1 χ1 H1 H h1 ds vs Q hr1 rvs (fun p hn => x1.back hr1 hr hn) g1
theorem RVs.one {d : D} {vs : List V} (r : RVs K φ χ H [d] vs) : ∃ v, vs = [v] ∧ RV K φ χ H d v := by
  cases r with
  | cons a b => cases b; exact ⟨_, rfl, a⟩
theorem RVs.two {d e : D} {vs : List V} (r : RVs K φ χ H [d, e] vs) : ∃ v w, vs = [v, w] ∧ RV K φ χ H d v ∧ RV K φ χ H e w := by
  cases r with
  | cons a b =>
    obtain ⟨w, rfl, q⟩ := b.one
    exact ⟨_, w, rfl, a, q⟩
theorem ok_len : BltOk X W l .len (fun xs H Q => (∃ p ys, xs = [.ref p] ∧ (SqL X.K H p ys ∨ SqT X.K H p ys) ∧ Q (.int ys.length) H) ∨ (∃ z, xs = [.str z] ∧ z.length ≤ sizeLine ∧ Q (.int z.length) H)) := fun τ φ χ H H0 h ds vs Q hr rs fr o => by
  unfold blt b_len at o
  simp only at o
  split at o <;> first | exact o.elim | skip
  rename_i d hb
  obtain ⟨v, rfl, r⟩ := rs.one
  split at o
  · split at o
    · cases r
      exact .inr ⟨_, rfl, by assumption, Out.same0 (H0 := H0) hr (.int _) o⟩
    · exact o.elim
  · split at o
    · rename_i xs e
      obtain ⟨a, ws, rfl, q, s⟩ := r.seqOf hr e
      exact .inl ⟨a, ws, rfl, q, by rw [← s.length]; exact Out.same0 (H0 := H0) hr (.int _) o⟩
    · exact o.elim
theorem ok_abs : BltOk X W l .abs (fun xs H Q => ∃ i, xs = [.int i] ∧ Q (.int (if i < 0 then -i else i)) H) := fun τ φ χ H H0 h ds vs Q hr rs fr o => by
  unfold blt b_abs at o
  simp only at o
  split at o <;> first | exact o.elim | skip
  obtain ⟨v, rfl, r⟩ := rs.one
  cases r
  exact ⟨_, rfl, Out.same0 (H0 := H0) hr (.int _) o⟩
theorem ok_min2 : BltOk X W l .min2 (fun xs H Q => ∃ i j, xs = [.int i, .int j] ∧ Q (.int (if j < i then j else i)) H) := fun τ φ χ H H0 h ds vs Q hr rs fr o => by
  unfold blt b_min2 at o
  simp only at o
  split at o <;> first | exact o.elim | skip
  obtain ⟨v, w, rfl, r, r2⟩ := rs.two
  cases r; cases r2
  exact ⟨_, _, rfl, Out.same0 (H0 := H0) hr (.int _) o⟩
theorem ok_max2 : BltOk X W l .max2 (fun xs H Q => ∃ i j, xs = [.int i, .int j] ∧ Q (.int (if j > i then j else i)) H) := fun τ φ χ H H0 h ds vs Q hr rs fr o => by
  unfold blt b_max2 at o
  simp only at o
  split at o <;> first | exact o.elim | skip
  obtain ⟨v, w, rfl, r, r2⟩ := rs.two
  cases r; cases r2
  exact ⟨_, _, rfl, Out.same0 (H0 := H0) hr (.int _) o⟩
theorem RV.ints (hr : HR K mg φ χ H l h) {d : D} {v : V} {ns : List Int} (rv : RV K φ χ H d v) (e : (Mp.listOf h d).bind intsOf = some ns) : ∃ a, v = .ref a ∧ SqL K H a (ns.map V.int) := by
  obtain ⟨ds, e1, e2⟩ := Option.bind_eq_some_iff.mp e
  obtain ⟨a, vs, rfl, q, s⟩ := rv.listOf hr e1
  rw [s.intsOf e2] at q
  exact ⟨a, rfl, q⟩
theorem foldl_min_le (n : Int) (ns : List Int) : ns.foldl min n ∈ n :: ns ∧ ∀ y ∈ n :: ns, ns.foldl min n ≤ y := by
  induction ns generalizing n with
  | nil => simp
  | cons m ms ih =>
    obtain ⟨h1, h2⟩ := ih (min n m)
    rw [List.foldl_cons]
    constructor
    · rcases List.mem_cons.mp h1 with q | q
      · rw [q]
        rcases Int.le_total n m with c | c
        · rw [Int.min_eq_left c]; simp
        · rw [Int.min_eq_right c]; simp
      · simp [q]
    · intro y hy
      have h3 := h2 (min n m) (by simp)
      rcases List.mem_cons.mp hy with q | q
      · rw [q]; omega
      · rcases List.mem_cons.mp q with q | q
        · rw [q]; omega
        · exact h2 y (by simp [q])
theorem foldl_max_le (n : Int) (ns : List Int) : ns.foldl max n ∈ n :: ns ∧ ∀ y ∈ n :: ns, y ≤ ns.foldl max n := by
  induction ns generalizing n with
  | nil => simp
  | cons m ms ih =>
    obtain ⟨h1, h2⟩ := ih (max n m)
    rw [List.foldl_cons]
    constructor
    · rcases List.mem_cons.mp h1 with q | q
      · rw [q]
        rcases Int.le_total n m with c | c
        · rw [Int.max_eq_right c]; simp
        · rw [Int.max_eq_left c]; simp
      · simp [q]
    · intro y hy
      have h3 := h2 (max n m) (by simp)
      rcases List.mem_cons.mp hy with q | q
      · rw [q]; omega
      · rcases List.mem_cons.mp q with q | q
        · rw [q]; omega
        · exact h2 y (by simp [q])
theorem ok_minL : BltOk X W l .minL (rMin X.K) := fun τ φ χ H H0 h ds vs Q hr rs fr o => by
  unfold blt b_minL at o
  simp only at o
  split at o <;> first | exact o.elim | skip
  rename_i d hb
  obtain ⟨v, rfl, r⟩ := rs.one
  split at o
  · rename_i n ns e
    obtain ⟨a, rfl, q⟩ := r.ints hr e
    refine ⟨a, n :: ns, rfl, q, by simp, fun m hm hle => ?_⟩
    have z : m = ns.foldl min n := Int.le_antisymm (hle _ (foldl_min_le n ns).1) ((foldl_min_le n ns).2 _ hm)
    rw [z]
    exact Out.same0 (H0 := H0) hr (.int _) o
  · exact o.elim
theorem ok_maxL : BltOk X W l .maxL (rMax X.K) := fun τ φ χ H H0 h ds vs Q hr rs fr o => by
  unfold blt b_maxL at o
  simp only at o
  split at o <;> first | exact o.elim | skip
  rename_i d hb
  obtain ⟨v, rfl, r⟩ := rs.one
  split at o
  · rename_i n ns e
    obtain ⟨a, rfl, q⟩ := r.ints hr e
    refine ⟨a, n :: ns, rfl, q, by simp, fun m hm hle => ?_⟩
    have z : m = ns.foldl max n := Int.le_antisymm ((foldl_max_le n ns).2 _ hm) (hle _ (foldl_max_le n ns).1)
    rw [z]
    exact Out.same0 (H0 := H0) hr (.int _) o
  · exact o.elim
theorem ok_sum : BltOk X W l .sum (rSum X.K) := fun τ φ χ H H0 h ds vs Q hr rs fr o => by
  unfold blt b_sum at o
  simp only at o
  split at o <;> first | exact o.elim | skip
  rename_i d hb
  obtain ⟨v, rfl, r⟩ := rs.one
  split at o
  · rename_i ns e
    obtain ⟨a, rfl, q⟩ := r.ints hr e
    exact ⟨a, ns, rfl, q, Out.same0 (H0 := H0) hr (.int _) o⟩
  · exact o.elim
theorem RV.bls (hr : HR K mg φ χ H l h) {d : D} {v : V} {ns : List Bool} (rv : RV K φ χ H d v) (e : (Mp.listOf h d).bind blsOf = some ns) : ∃ a, v = .ref a ∧ SqL K H a (ns.map V.bl) := by
  obtain ⟨ds, e1, e2⟩ := Option.bind_eq_some_iff.mp e
  obtain ⟨a, vs, rfl, q, s⟩ := rv.listOf hr e1
  rw [s.blsOf e2] at q
  exact ⟨a, rfl, q⟩
theorem ok_all : BltOk X W l .all (rAll X.K) := fun τ φ χ H H0 h ds vs Q hr rs fr o => by
  unfold blt b_all at o
  simp only at o
  split at o <;> first | exact o.elim | skip
  rename_i d hb
  obtain ⟨v, rfl, r⟩ := rs.one
  split at o
  · rename_i ns e
    obtain ⟨a, rfl, q⟩ := r.bls hr e
    exact ⟨a, ns, rfl, q, Out.same0 (H0 := H0) hr (.bl _) o⟩
  · exact o.elim
theorem ok_any : BltOk X W l .any (rAny X.K) := fun τ φ χ H H0 h ds vs Q hr rs fr o => by
  unfold blt b_any at o
  simp only at o
  split at o <;> first | exact o.elim | skip
  rename_i d hb
  obtain ⟨v, rfl, r⟩ := rs.one
  split at o
  · rename_i ns e
    obtain ⟨a, rfl, q⟩ := r.bls hr e
    exact ⟨a, ns, rfl, q, Out.same0 (H0 := H0) hr (.bl _) o⟩
  · exact o.elim
theorem ok_tuple : BltOk X W l .tuple (fun xs H Q => ∃ p ys, xs = [.ref p] ∧ ((SqL X.K H p ys ∧ ∀ l, H l = none → Q (.ref l) (upd H l (.tup ys))) ∨ (SqT X.K H p ys ∧ Q (.ref p) H))) := fun τ φ χ H H0 h ds vs Q hr rs fr o => by
  unfold blt b_tuple at o
  simp only at o
  split at o <;> first | exact o.elim | skip
  rename_i d hb
  obtain ⟨v, rfl, r⟩ := rs.one
  split at o
  · rename_i xs e
    cases r with
    | @tup a ws _ t s =>
      cases e
      exact ⟨a, ws, rfl, .inr ⟨t.sq, Out.same0 (H0 := H0) hr (.tup t s) o⟩⟩
    | @lst a ws _ n t s =>
      cases e
      exact ⟨a, ws, rfl, .inl ⟨SqL.of t, fun p hp => Out.tup (H0 := H0) (fr := false) hr s hp o⟩⟩
    | ref q =>
      obtain ⟨ws, t, s⟩ := hr.getL q e
      exact ⟨_, ws, rfl, .inl ⟨SqL.of t, fun p hp => Out.tup (H0 := H0) (fr := false) hr s hp o⟩⟩
    | scr t =>
      cases e
      exact ⟨_, _, rfl, .inl ⟨t.sq, fun p hp => Out.tup (H0 := H0) (fr := false) hr (RVs.ints _) hp o⟩⟩
    | _ => cases e
  · exact o.elim
theorem ok_list : BltOk X W l .list (fun xs H Q => ∃ p ys, xs = [.ref p] ∧ (SqL X.K H p ys ∨ SqT X.K H p ys) ∧ ∀ l, H l = none → Q (.ref l) (upd H l (.lst ys))) := fun τ φ χ H H0 h ds vs Q hr rs fr o => by
  unfold blt b_list at o
  simp only at o
  split at o <;> first | exact o.elim | skip
  rename_i d hb
  obtain ⟨v, rfl, r⟩ := rs.one
  split at o
  · rename_i xs e
    obtain ⟨a, ws, rfl, q, s⟩ := r.seqOf hr e
    exact ⟨a, ws, rfl, q, fun p hp => Out.new (H0 := H0) (fr := true) hr s hp (fr p hp) o⟩
  · exact o.elim
theorem ins_perm (x : Int) : ∀ ys : List Int, (insI x ys).Perm (x :: ys)
  | [] => List.Perm.refl _
  | y :: ys => by
    unfold insI
    split
    · exact List.Perm.refl _
    · exact ((ins_perm x ys).cons y).trans (List.Perm.swap x y ys)
theorem ins_sorted (x : Int) : ∀ {ys : List Int}, ys.Pairwise (· ≤ ·) → (insI x ys).Pairwise (· ≤ ·)
  | [], _ => by simp [insI]
  | y :: ys, p => by
    unfold insI
    have h1 := List.pairwise_cons.mp p
    split
    · rename_i q
      refine List.pairwise_cons.mpr ⟨fun z hz => ?_, p⟩
      rcases List.mem_cons.mp hz with e | e
      · rw [e]; exact q
      · exact Int.le_trans q (h1.1 z e)
    · rename_i q
      refine List.pairwise_cons.mpr ⟨fun z hz => ?_, ins_sorted x h1.2⟩
      rcases List.mem_cons.mp ((ins_perm x ys).mem_iff.mp hz) with e | e
      · rw [e]; omega
      · exact h1.1 z e
theorem sort_perm : ∀ xs : List Int, (sortI xs).Perm xs
  | [] => List.Perm.refl _
  | x :: xs => (ins_perm x (sortI xs)).trans ((sort_perm xs).cons x)
theorem sort_sorted : ∀ xs : List Int, (sortI xs).Pairwise (· ≤ ·)
  | [] => List.Pairwise.nil
  | x :: xs => ins_sorted x (sort_sorted xs)
theorem sorted_eq {xs ys : List Int} (p : xs.Perm ys) (h1 : xs.Pairwise (· ≤ ·)) (h2 : ys.Pairwise (· ≤ ·)) : xs = ys :=
  p.eq_of_pairwise (fun a b _ _ q r => Int.le_antisymm q r) h1 h2
/-- sorted(xs), ints in a list or in a tuple -/
def rSortU2 (K : PySem.W.Frag) : List V → Hp → VK → Prop := fun vs H Q => ∃ (a : Addr) (ns : List Int), vs = [V.ref a] ∧ (SqL K H a (ns.map V.int) ∨ SqT K H a (ns.map V.int)) ∧
  ∀ (ms : List Int) (p : Addr), ms.Perm ns → ms.Pairwise (· ≤ ·) → H p = none → Q (.ref p) (upd H p (.lst (ms.map V.int)))
theorem cr_sortU2 {X : Cx} : CallR X (.builtin "sorted") (rSortU2 X.K) := by
  intro pins st sg H vs us Q I r told
  obtain ⟨a, ns, rfl, hs | hs, q⟩ := told
  · exact cr_sortedI _ _ _ _ _ _ _ I r ⟨a, ns, rfl, hs, q⟩
  · obtain ⟨its, rv, lies, small⟩ := I.tuple hs
    rw [Vals.ref1 r]
    have wh := rv.ints
    refine MpK.sorted_tuple SrtO.swo_int lies (by rw [← rv.length]; exact small) (fun h2 g b _ _ => SrtO.ints_sortable wh h2) fun out h1 h2 => ?_
    obtain ⟨k1, k2, k3⟩ := SrtO.ints_out wh h1 h2
    obtain ⟨ep, at_⟩ := PyProof.Rows.sortedAll_at _ its out.toArray
    have fits : ((out.map SrtO.iv).map V.int).length ≤ sizeLine := by
      rw [List.length_map, k2.length_eq, ← List.length_map (f := V.int)]
      exact small
    exact ⟨.ref _, upd H _ (.lst ((out.map SrtO.iv).map V.int)), I.laid (t' := _) (fun _ _ => PyProof.Rows.sortedAll_old) (Nat.le_succ _) ⟨fits, out, ep, vals_of_ints k1, at_⟩, rfl, q _ _ k2 k3 (I.hok.fresh (Nat.le_succ _))⟩
theorem RV.intsB {K : PySem.W.Frag} {mg : Str → Option Value} {φ : List Addr} {χ : Ads} {H : Hp} {h : Hh} (hr : HR K mg φ χ H l h) {d : D} {v : V} {ns : List Int} (rv : RV K φ χ H d v) (e : (Mp.seqOf h d).bind intsOf = some ns) : ∃ a, v = .ref a ∧ (SqL K H a (ns.map V.int) ∨ SqT K H a (ns.map V.int)) := by
  obtain ⟨ds, g, e2⟩ := Option.bind_eq_some_iff.mp e
  obtain ⟨a, vs, rfl, q, r⟩ := rv.seqOf hr g
  rw [r.intsOf e2] at q
  exact ⟨a, rfl, q⟩
theorem ok_sorted : BltOk X W l .sorted (rSortU2 X.K) := fun τ φ χ H H0 h ds vs Q hr rs fr o => by
  unfold blt b_sorted at o
  simp only at o
  split at o <;> first | exact o.elim | skip
  rename_i d hb
  obtain ⟨v, rfl, r⟩ := rs.one
  split at o
  · rename_i ns e
    obtain ⟨a, rfl, q⟩ := r.intsB hr e
    refine ⟨a, ns, rfl, q, fun ms p pm so hp => ?_⟩
    rw [sorted_eq (pm.trans (sort_perm ns).symm) so (sort_sorted ns)]
    exact Out.new (H0 := H0) (fr := true) hr (RVs.ints _) hp (fr p hp) o
  · exact o.elim
theorem ok_int : BltOk X W l .int (fun xs H Q => (∃ i, xs = [.int i] ∧ Q (.int i) H) ∨ ∃ k, xs = [.bl k] ∧ Q (.int (if k then 1 else 0)) H) := fun τ φ χ H H0 h ds vs Q hr rs fr o => by
  unfold blt b_int at o
  simp only at o
  split at o <;> first | exact o.elim | skip
  · obtain ⟨v, rfl, r⟩ := rs.one
    cases r
    exact .inr ⟨_, rfl, Out.same0 (H0 := H0) hr (.int _) o⟩
  · obtain ⟨v, rfl, r⟩ := rs.one
    cases r
    exact .inl ⟨_, rfl, Out.same0 (H0 := H0) hr (.int _) o⟩
theorem ok_str : BltOk X W l .str (fun xs H Q => ∃ i, xs = [.int i] ∧ i.natAbs.log2 < 1920 ∧ Q (.str (toString i)) H) := fun τ φ χ H H0 h ds vs Q hr rs fr o => by
  unfold blt b_str at o
  simp only at o
  split at o <;> first | exact o.elim | skip
  obtain ⟨v, rfl, r⟩ := rs.one
  cases r
  split at o
  · exact ⟨_, rfl, by assumption, Out.same0 (H0 := H0) hr (.str _) o⟩
  · exact o.elim
/-! repr of data -/
def noDct : PyData → Bool
  | .dict _ => false
  | _ => true
mutual
theorem flat_noDict : ∀ {d : D} {x : PyData}, d.flat = some x → x.hasDict = false
  | .non, _, e => by cases e; simp [PyData.hasDict]
  | .bl _, _, e => by cases e; simp [PyData.hasDict]
  | .int _, _, e => by cases e; simp [PyData.hasDict]
  | .str _, _, e => by cases e; simp [PyData.hasDict]
  | .tup ds, _, e => by
    unfold D.flat at e
    obtain ⟨xs, e1, rfl⟩ := Option.map_eq_some_iff.mp e
    simpa [PyData.hasDict] using flats_noDict e1
  | .lst ds, _, e => by
    unfold D.flat at e
    obtain ⟨xs, e1, rfl⟩ := Option.map_eq_some_iff.mp e
    simpa [PyData.hasDict] using flats_noDict e1
  | .ref _, _, e => by cases e
  | .scr _, _, e => by cases e
  | .exc _ _, _, e => by cases e
  | .fn _, _, e => by cases e
theorem flats_noDict : ∀ {d : List D} {x : List PyData}, D.flats d = some x → PyData.hasDictAll x = false
  | [], _, e => by cases e; simp [PyData.hasDictAll]
  | _ :: _, _, e => by
    obtain ⟨y, ys, rfl, e1, e2⟩ := flats_cons e
    simp [PyData.hasDictAll, flat_noDict e1, flats_noDict e2]
end
mutual
theorem py_noDict : ∀ {d : D} {x : PyData}, d.py h = some x → x.hasDict = false
  | .non, _, e => by cases e; simp [PyData.hasDict]
  | .bl _, _, e => by cases e; simp [PyData.hasDict]
  | .int _, _, e => by cases e; simp [PyData.hasDict]
  | .str _, _, e => by cases e; simp [PyData.hasDict]
  | .tup ds, _, e => by
    unfold D.py at e
    obtain ⟨xs, e1, rfl⟩ := Option.map_eq_some_iff.mp e
    simpa [PyData.hasDict] using pys_noDict e1
  | .lst ds, _, e => by
    unfold D.py at e
    obtain ⟨xs, e1, rfl⟩ := Option.map_eq_some_iff.mp e
    simpa [PyData.hasDict] using pys_noDict e1
  | .ref _, _, e => by
    unfold D.py at e
    obtain ⟨ds, e1, e2⟩ := Option.bind_eq_some_iff.mp e
    obtain ⟨xs, e3, rfl⟩ := Option.map_eq_some_iff.mp e2
    simpa [PyData.hasDict] using flats_noDict e3
  | .scr _, _, e => by cases e
  | .exc _ _, _, e => by cases e
  | .fn _, _, e => by cases e
theorem pys_noDict : ∀ {d : List D} {x : List PyData}, D.pys h d = some x → PyData.hasDictAll x = false
  | [], _, e => by cases e; simp [PyData.hasDictAll]
  | _ :: _, _, e => by
    obtain ⟨y, ys, rfl, e1, e2⟩ := pys_cons e
    simp [PyData.hasDictAll, py_noDict e1, pys_noDict e2]
end
end
end Mp

set_option maxRecDepth 100000
/-! Mp2g: repr, types, methods, stores. -/
namespace Mp
open PySem PySem.Spec PyProof.Rows L2

section
variable {X : Cx} {W : WX} {l : List Nat} {τ : L2.St} {φ φ' φ1 : List Addr} {χ χ' χ1 : Ads} {H H' H1 H0 : Hp} {h h' : Hh} {α β : Type} {K : PySem.W.Frag} {mg : Str → Option Value}

def rReprD (K : PySem.W.Frag) : List V → Hp → VK → Prop := fun xs H Q => ∃ v x, xs = [v] ∧ Dp K H v x ∧ x.showable = true ∧ x.hasDict = false ∧ x.shown.length ≤ sizeLine ∧ x.depth ≤ 64 ∧ Q (.str x.shown) H
theorem call_reprD (hg : X.A.guards = some []) (hu : X.A.units + 65 < cLine) : CallR X (.builtin "repr") (rReprD X.K) := by
  intro pins s σ H xs us Q I r hh
  obtain ⟨v, x, rfl, dp, c1, c2, c3, c4, q⟩ := hh
  obtain ⟨u, rfl, ru⟩ := vals1 r
  obtain ⟨as, rd⟩ := Dp.reads I x v u dp ru
  have fin : ∀ (h' : Heap) (t : Tok) (tk : Nat), (∀ b o, s.heap.get? b = some o → h'.get? b = some o) → EP X pins σ Q (.str x.shown t) { s with heap := h', toks := tk } := fun h' t tk hk => ⟨.str x.shown, H, I.kept hk, ⟨_, rfl⟩, q⟩
  cases ru' : u with
  | ref a =>
    subst ru'
    exact PySem.repr_of_reads' rd c1 (PyData.noDict_hsm c2) hg (by omega) (fun _ _ e => e) (fun h' t tk hk => fin h' t tk hk) c3
  | none =>
    subst ru'
    cases rd
    exact PySem.P.repr_of_none (by have := fin s.heap s.toks (s.toks + 1) (fun _ _ e => e); rw [PyData.shown_none] at this; exact this)
  | bool b =>
    subst ru'
    cases rd
    exact PySem.P.repr_of_bool (by have := fin s.heap s.toks (s.toks + 1) (fun _ _ e => e); rw [PyData.shown_bool] at this; exact this)
  | int i t =>
    subst ru'
    cases rd
    have z : i.natAbs.log2 < 1920 := by simpa [PyData.showable] using c1
    exact PySem.P.repr_of_int z (by have := fin s.heap s.toks (s.toks + 1) (fun _ _ e => e); rw [PyData.shown_int] at this; exact this)
  | str y t =>
    subst ru'
    cases rd
    rw [PyData.shown_str] at c3
    exact PySem.P.repr_of_str (by have := fin s.heap s.toks (s.toks + 1) (fun _ _ e => e); rw [PyData.shown_str] at this; exact this) c3
  | _ => subst ru'; cases rd
theorem ok_repr : BltOk X W l .repr (rReprD X.K) := fun τ φ χ H H0 h ds vs Q hr rs fr o => by
  unfold blt b_repr at o
  simp only at o
  split at o <;> first | exact o.elim | skip
  obtain ⟨v, rfl, r⟩ := rs.one
  split at o
  · rename_i x e
    split at o
    · rename_i hs
      simp only [Bool.and_eq_true, decide_eq_true_eq] at hs
      exact ⟨v, x, rfl, r.py hr e, hs.1.1, py_noDict e, hs.1.2, hs.2, Out.same0 (H0 := H0) hr (.str _) o⟩
    · exact o.elim
  · exact o.elim

/-! ### isinstance -/
theorem RV.ty (hr : HR K mg φ χ H l h) {d : D} {v : V} {t : String} (r : RV K φ χ H d v) (e : dTy h d = some t) : TyX K H v (.type t) := by
  cases r with
  | non => cases e; exact .base .non
  | bl b => cases e; exact .base (.bl b)
  | int b => cases e; exact .base (.int b)
  | str b => cases e; exact .base (.str b)
  | tup t s =>
    cases e
    rcases t with t | ⟨o, its, n, k, c, _⟩
    · exact .base (.tup t)
    · exact .kTuple k c
  | lst n t s => cases e; exact .base (.lst t)
  | ref q =>
    obtain ⟨ds, e1, rfl⟩ := Option.map_eq_some_iff.mp e
    obtain ⟨vs, t, _⟩ := hr.getL q e1
    exact .base (.lst t)
  | scr s => cases e
  | exc0 => cases e
  | exc => cases e
/-- the built-in classes' answers -/
theorem kit_all : ∀ a ∈ ["NoneType", "bool", "int", "str", "tuple", "list"], ∀ t ∈ [Ty.int, .bool, .tuple, .list, .str], kitB a (tyName t) = some (tyIs t a) := by decide +kernel
def bTy : Ty → Bool
  | .own _ => false
  | _ => true
theorem dTy_mem {d : D} {a : String} (e : dTy h d = some a) : a ∈ ["NoneType", "bool", "int", "str", "tuple", "list"] := by
  cases d <;> first | (cases e; done) | (cases e; simp; done) | skip
  obtain ⟨ds, _, rfl⟩ := Option.map_eq_some_iff.mp e
  simp
theorem bTy_mem {t : Ty} (e : bTy t = true) : t ∈ [Ty.int, .bool, .tuple, .list, .str] := by
  cases t <;> first | (cases e; done) | simp
theorem isTy_b {d : D} {t : Ty} {b : Bool} (ht : bTy t = true) (e : isTy h d t = some b) : ∃ a, dTy h d = some a ∧ PySem.W.kitOne K (.type a) (.type (tyName t)) = some b := by
  have e' : (dTy h d).map (tyIs t) = some b := by cases t <;> first | exact e | cases ht
  obtain ⟨a, e1, rfl⟩ := Option.map_eq_some_iff.mp e'
  exact ⟨a, e1, kit_ty (kit_all a (dTy_mem e1) t (bTy_mem ht))⟩
theorem m_isin1 {a : Expr} {ea : E} {t : Ty} {p p2 pos : Pos} (ht : bTy t = true) (hg : Gl X "isinstance") (hm : X.mg "isinstance" = none) (hc : PE X (.Name (Str.ofString (tyName t)) p2) (tC (.ty (tyName t))))
    (ha : PE X a (tM X W l ea)) (hst : starEach [a, .Name (Str.ofString (tyName t)) p2] X.env = (false, eval a X.env) :: starEach [.Name (Str.ofString (tyName t)) p2] X.env) :
    PE X (.Call (.Name "isinstance" p) [a, .Name (Str.ofString (tyName t)) p2] [] pos) (tM X W l (.isin ea [t])) := by
  refine peImp (pe_callB call_isi hg hm (by decide +kernel) (pa_cons ha (pa_cons hc pa_nil) hst) (by decide) (by decide) hst) fun τ H Q ⟨φ, χ, σ, h, rs, hr, o⟩ => ?_
  unfold evE at o
  refine tM.to rs hr (o.bind.mono fun φ1 χ1 H1 d1 h1 _ x1 _ g1 _ hr1 v1 rv1 => ?_)
  unfold isinV isAny isAny at g1
  cases e : isTy h1 d1 t with
  | none => rw [e] at g1; exact g1.elim
  | some b =>
    obtain ⟨a', e1, e2⟩ := isTy_b (K := X.K) ht e
    have q : Q (.bl b) H1 := by
      rw [e] at g1
      cases b <;> exact Out.same0 (H0 := H) hr1 (.bl _) g1
    exact ⟨v1, .ty (tyName t), _, _, b, rfl, .ty _, rv1.ty hr1 e1, e2, q⟩
/-- a tuple of classes -/
def clsL : List Ty → List Pos → List Expr
  | t :: ts, p :: ps => .Name (Str.ofString (tyName t)) p :: clsL ts ps
  | _, _ => []
def tCls : List Ty → TA
  | [] => tNil
  | t :: ts => tCons (tC (.ty (tyName t))) (tCls ts)
theorem pa_cls : ∀ (ts : List Ty) (ps : List Pos), ts.length = ps.length → (∀ t ∈ ts, ∀ p, PE X (.Name (Str.ofString (tyName t)) p) (tC (.ty (tyName t)))) → PA X (clsL ts ps) (tCls ts)
  | [], _, _, _ => pa_nil
  | _ :: _, [], e, _ => nomatch e
  | t :: ts, p :: ps, e, k => pa_cons (k t (by simp) p) (pa_cls ts ps (by simpa using e) fun t h => k t (by simp [h]))
theorem tCls_run : ∀ (ts : List Ty) {τ : L2.St} {H : Hp} {Q : List V → Hp → Prop}, Q (ts.map fun t => V.ty (tyName t)) H → tCls ts τ H Q
  | [], _, _, _, q => q
  | t :: ts, _, H, Q, q => tCls_run ts (Q := fun xs H2 => Q (V.ty (tyName t) :: xs) H2) q
theorem cls_paired : ∀ ts : List Ty, Paired ClsV (ts.map fun t => V.ty (tyName t)) (ts.map fun t => Value.type (tyName t))
  | [] => .nil
  | t :: ts => .cons (.ty _) (cls_paired ts)
theorem isAny_b {d : D} : ∀ {ts : List Ty} {b : Bool}, (∀ t ∈ ts, bTy t = true) → ts ≠ [] → isAny h d ts = some b → ∃ a, dTy h d = some a ∧ PySem.W.kitAny K (.type a) (ts.map fun t => Value.type (tyName t)) = some b
  | [], _, _, n, _ => absurd rfl n
  | t :: ts, b, ht, _, e => by
    unfold isAny at e
    split at e
    · rename_i e1
      cases e
      obtain ⟨a, q1, q2⟩ := isTy_b (K := K) (ht t (by simp)) e1
      exact ⟨a, q1, kitAny_cons q2 (fun z => nomatch z) fun _ => rfl⟩
    · rename_i e1
      obtain ⟨a, q1, q2⟩ := isTy_b (K := K) (ht t (by simp)) e1
      by_cases n : ts = []
      · subst n
        cases e
        exact ⟨a, q1, kitAny_cons q2 (fun _ => kitAny_nil) fun z => nomatch z⟩
      · obtain ⟨a2, q3, q4⟩ := isAny_b (fun t h => ht t (by simp [h])) n e
        rw [q1] at q3
        cases q3
        exact ⟨a, q1, kitAny_cons q2 (fun _ => q4) fun z => nomatch z⟩
    · cases e
theorem m_isinT {a : Expr} {ea : E} {ts : List Ty} {ps : List Pos} {k : Nat} {p p2 pos : Pos} (hl : ts.length = ps.length) (hn : ts ≠ []) (ht : ∀ t ∈ ts, bTy t = true) (hg : Gl X "isinstance") (hm : X.mg "isinstance" = none)
    (hc : ∀ t ∈ ts, ∀ p, PE X (.Name (Str.ofString (tyName t)) p) (tC (.ty (tyName t)))) (ha : PE X a (tM X W l ea)) (hz : ts.length ≤ sizeLine)
    (hst : starEach [a, .Tuple (clsL ts ps) k p2] X.env = (false, eval a X.env) :: starEach [.Tuple (clsL ts ps) k p2] X.env) :
    PE X (.Call (.Name "isinstance" p) [a, .Tuple (clsL ts ps) k p2] [] pos) (tM X W l (.isin ea ts)) := by
  refine peImp (pe_callB call_isiT hg hm (by decide +kernel) (pa_cons ha (pa_cons (pe_tup (pa_cls ts ps hl hc)) pa_nil) hst) (by decide) (by decide) hst) fun τ H Q ⟨φ, χ, σ, h, rs, hr, o⟩ => ?_
  unfold evE at o
  refine tM.to rs hr (o.bind.mono fun φ1 χ1 H1 d1 h1 _ x1 _ g1 _ hr1 v1 rv1 => ?_)
  refine tCls_run ts ⟨by rw [List.length_map]; exact hz, fun q hq => ?_⟩
  unfold isinV at g1
  cases e : isAny h1 d1 ts with
  | none => rw [e] at g1; exact g1.elim
  | some b =>
    rw [e] at g1
    obtain ⟨a', e1, e2⟩ := isAny_b (K := X.K) ht hn e
    have hr2 := hr1.newT (vs := ts.map fun t => V.ty (tyName t)) hq
    have x2 : Ext φ1 χ1 H1 φ1 χ1 (upd H1 q (.tup (ts.map fun t => V.ty (tyName t)))) := .newT hq
    exact ⟨v1, q, _, _, _, b, rfl, upd_same, cls_paired ts, (rv1.ext x2).ty hr2 e1, e2, Out.same0 (H0 := H) hr2 (.bl _) (Out.later x2 g1)⟩

/-! ### stores into objects of ours -/
theorem stOk_all {n : Nat} {d : D} (e : stOk l n d = true) : ∀ b ∈ l, b ≤ n ∨ d.und b = true := by
  unfold stOk at e
  intro b hb
  simpa using List.all_eq_true.mp e b hb
theorem getL_at {n : Nat} {ds : List D} (e : getL h n = some ds) : h[n]? = some (.lst ds) := by
  unfold getL at e
  split at e
  · rename_i q; cases e; exact q
  · cases e
/-- one list of ours is written -/
theorem HR.wr {n : Nat} {a : Addr} {ds es : List D} {vs ws : List V} (hr : HR K mg φ χ H l h) (e : φ[n]? = some a) (g : Mp.getL h n = some ds) (ha : H a = some (.lst vs)) (rs : RVs K φ χ H es ws)
    (st : ∀ b ∈ l, b ≤ n ∨ D.unds b es = true) : Ext φ χ H φ χ (upd H a (.lst ws)) ∧ HR K mg φ χ (upd H a (.lst ws)) l (h.set n (.lst es)) := by
  have hx : χ a := hr.sub a (List.mem_of_getElem? e)
  have x : Ext φ χ H φ χ (upd H a (.lst ws)) := by
    refine ⟨⟨⟨[], by simp⟩, fun _ q => q, fun _ q z => absurd q z, fun b o nb ho => ?_, fun b xs ho => ?_, fun b o xs ho => ?_⟩, fun b o nb ho => ?_, fun a q n => absurd q n⟩
    · rw [upd_ne (fun z => nb (by rw [z]; exact hx))]; exact ho
    · rw [upd_ne (fun z => by rw [z, ha] at ho; cases ho)]; exact ho
    · rw [upd_ne (fun z => by rw [z, ha] at ho; cases ho)]; exact ho
    · rw [upd_ne (fun z => nb (by rw [z]; exact List.mem_of_getElem? e))]; exact ho
  have hn : n < h.length := (List.getElem?_eq_some_iff.mp (getL_at g)).1
  refine ⟨x, by rw [List.length_set]; exact hr.len, hr.nd, hr.sub, fun m b o e1 e2 => ?_, fun b hb m o hm e2 => ?_, fun b hb => by rw [List.length_set]; exact hr.top b hb, fun b hb => ?_⟩
  · by_cases hmn : n = m
    · subst hmn
      rw [e] at e1; cases e1
      rw [List.getElem?_set_self hn] at e2; cases e2
      exact .lst upd_same (rs.ext x)
    · rw [List.getElem?_set_ne hmn] at e2
      have nab : b ≠ a := fun z => by
        subst z
        obtain ⟨l1, q1⟩ := List.getElem?_eq_some_iff.mp e
        obtain ⟨l2, q2⟩ := List.getElem?_eq_some_iff.mp e1
        exact hmn ((List.getElem_inj hr.nd).mp (q1.trans q2.symm))
      exact (hr.ob m b o e1 e2).ext x (upd_ne nab)
  · by_cases hmn : n = m
    · subst hmn
      rw [List.getElem?_set_self hn] at e2; cases e2
      rcases st b hb with q | q
      · omega
      · exact q
    · rw [List.getElem?_set_ne hmn] at e2
      exact hr.lim b hb m o hm e2
  · by_cases z : b = a
    · rw [z, upd_same]; simp
    · rw [upd_ne z]; exact hr.ch b hb

/-! ### methods of lists -/
/-- what a method's rule asks is met: o the receiver -/
def BmOk (X : Cx) (W : WX) (l : List Nat) (m : Bm) (r : V → List V → Hp → VK → Prop) : Prop := ∀ (τ : L2.St) (φ : List Addr) (χ : Ads) (H H0 : Hp) (h : Hh) (o : D) (v : V) (ds : List D) (vs : List V) (Q : VK), HR X.K X.mg φ χ H l h → RV X.K φ χ H o v → RVs X.K φ χ H ds vs →
      Out X W l τ φ χ H (bm m l h o ds) (fun φ' χ' H' d _ => ∀ v, RVf false X.K H0 φ' χ' H' d v → Q v H') → r v vs H Q
theorem RV.recv (hr : HR K mg φ χ H l h) {d : D} {v : V} {t : String} (r : RV K φ χ H d v) (e : Mp.recv t h d = true) : tyV K t v H := by
  unfold Mp.recv at e
  split at e
  · cases r; rfl
  · cases r with
    | ref q =>
      obtain ⟨ds, e1⟩ := Option.isSome_iff_exists.mp e
      obtain ⟨vs, z, _⟩ := hr.getL q e1
      exact .inl ⟨rfl, vs, SqL.of z⟩
  · cases r with
    | lst n z s => exact .inl ⟨rfl, _, SqL.of z⟩
  · cases e
theorem tM.bm {m : Bm} {ea : E} {es : EL} {r : V → List V → Hp → VK → Prop} (hk : BmOk X W l m r) : ∀ τ H Q, tM X W l (.bm m ea es) τ H Q → tM X W l ea τ H fun x H1 => tyV X.K (bmTy m) x H1 ∧ tMs X W l es τ H1 fun xs H2 => r x xs H2 Q := by
  intro τ H Q ⟨φ, χ, σ, h, rs, hr, o⟩
  unfold evE at o
  refine tM.to rs hr (o.bind.mono fun φ1 χ1 H1 d1 h1 _ x1 _ g1 _ hr1 v1 rv1 => ?_)
  split at g1
  · rename_i hc
    refine ⟨rv1.recv hr1 hc, ?_⟩
    refine tMs.of (rs.ext x1) hr1 (g1.bind.mono fun φ2 χ2 H2 ds h2 _ x2 _ g2 _ hr2 vs rvs => ?_)
    exact hk τ φ2 χ2 H2 H h2 d1 v1 ds vs Q hr2 (rv1.ext x2) rvs g2
  · exact g1.elim
theorem m_bm {m : Bm} {a : Expr} {ea : E} {as : List Expr} {es : EL} {e : Expr} {r : V → List V → Hp → VK → Prop} (hp : PE X e (tBM X.K (bmTy m) r (tM X W l ea) (tMs X W l es))) (hk : BmOk X W l m r) : PE X e (tM X W l (.bm m ea es)) :=
  peImp hp (tM.bm hk)
theorem m_bm0 {m : Bm} {a : Expr} {ea : E} {e : Expr} {r : V → List V → Hp → VK → Prop} (hp : PE X e (tBM0 X.K (bmTy m) r (tM X W l ea))) (hk : BmOk X W l m r) : PE X e (tM X W l (.bm m ea .nil)) := by
  refine peImp hp fun τ H Q ⟨φ, χ, σ, h, rs, hr, o⟩ => ?_
  unfold evE at o
  refine tM.to rs hr (o.bind.mono fun φ1 χ1 H1 d1 h1 _ x1 _ g1 _ hr1 v1 rv1 => ?_)
  split at g1
  · rename_i hc
    refine ⟨rv1.recv hr1 hc, ?_⟩
    unfold evL at g1
    exact hk τ φ1 χ1 H1 H h1 d1 v1 [] [] Q hr1 rv1 .nil g1
  · exact g1.elim
theorem und_lst {b : Nat} {ds : List D} : (D.lst ds).und b = D.unds b ds := by simp [D.und]
theorem unds_append {b : Nat} : ∀ {ds es : List D}, D.unds b (ds ++ es) = (D.unds b ds && D.unds b es)
  | [], es => by simp [D.unds]
  | d :: ds, es => by simp [D.unds, unds_append (ds := ds), Bool.and_assoc]
theorem unds_all {b : Nat} : ∀ {ds : List D}, D.unds b ds = true ↔ ∀ d ∈ ds, d.und b = true
  | [] => by simp [D.unds]
  | d :: ds => by simp [D.unds, unds_all (ds := ds)]
theorem HR.limL (hr : HR K mg φ χ H l h) {n : Nat} {ds : List D} (g : Mp.getL h n = some ds) : ∀ b ∈ l, b ≤ n ∨ D.unds b ds = true := fun b hb => by
  by_cases q : n < b
  · exact .inr (hr.lim b hb n _ q (getL_at g))
  · exact .inl (by omega)
theorem ok_append : BmOk X W l .append rAppend := fun τ φ χ H H0 h o v ds vs Q hr r rs oo => by
  unfold bm m_append at oo
  simp only at oo
  split at oo <;> first | exact oo.elim | skip
  obtain ⟨w, rfl, rw⟩ := rs.one
  cases r with
  | ref q =>
    split at oo
    · rename_i xs g
      split at oo
      · rename_i hc
        have hc := and_true hc
        obtain ⟨ws, ha, s⟩ := hr.getL q g
        have sw := s.append (RVs.cons rw .nil)
        obtain ⟨x, hr2⟩ := hr.wr q g ha sw fun b hb => by
          rcases stOk_all hc.1 b hb with z | z
          · exact .inl z
          · rcases hr.limL g b hb with y | y
            · exact .inl y
            · exact .inr (by rw [unds_append, y]; simp [D.unds, z])
        exact ⟨_, ws, w, rfl, rfl, ha, by rw [← s.length]; exact of_decide_eq_true hc.2, Out.same0 (H0 := H0) hr2 .non (Out.later x oo)⟩
      · exact oo.elim
    · exact oo.elim
def rExtU (K : PySem.W.Frag) : V → List V → Hp → VK → Prop := fun x vs H Q => ∃ l b xs zs, x = .ref l ∧ vs = [.ref b] ∧ H l = some (.lst xs) ∧ (H b = some (.lst zs) ∨ SqT K H b zs) ∧ xs.length + zs.length ≤ sizeLine ∧ Q .non (upd H l (.lst (xs ++ zs)))
theorem extend_tup (l : Addr) (items : Array Value) (n : Nat) (b : Addr) (more : Array Value) (n2 : Nat) (dd : Option Addr) (sl : Array (Option Value)) (hs0 : ¬(!items.isEmpty && Builtin.List.listTooLong (items.size + more.size)) = true) (hs1 : items.size ≤ sizeLine) (hs2 : items.size + more.size ≤ sizeLine + 1) :
    Meets (Builtin.«list.extend» ⟨[.ref l, .ref b], []⟩) (fun _ R s => s.heap.get? l = some { cls := .type "list", dict := none, data := .seq items n, slots := #[] } ∧ s.heap.get? b = some { cls := .type "tuple", dict := dd, data := .seq more n2, slots := sl } ∧ R (.ok (.ret Value.none)) { s with heap := s.heap.update l (Obj.mapSeq fun x => x ++ more), toks := s.toks }) :=
  .of_wp fun prog w A R s h => by obtain ⟨hp, g, d, tk, os⟩ := s; obtain ⟨hl, hb, h⟩ := h
                                  have f1 := AutoSeq1.idx_int; have f2 := AutoSeq1.sub_tuple_tuple; have f3 := AutoSeq1.sub_list_list; have f4 := AutoSeq1.sub_tuple_list; have f5 := AutoSeq1.sub_list_tuple;
                                  have fit : (items ++ more).size ≤ sizeLine + 1 := by rw [Array.size_append]; exact hs2
                                  wp_walk using (wpAny_updateSeq hl rfl (hz := hs1) (_hz' := fit)), AutoSeq1.wpAny_loadPart' hl, AutoSeq1.wpAny_loadPart' hb; exact ⟨_, rfl, h⟩
theorem mt_extU {X : Cx} : MtM X "list.extend" (rExtU X.K) := by
  intro pins s σ H x vs v us Q I rx rv told
  obtain ⟨l, b, xs, zs, rfl, rfl, hH, hB, hz, q⟩ := told
  rcases hB with hB | hB
  · exact mt_extend _ _ _ _ _ _ _ _ _ I rx rv ⟨l, b, xs, zs, rfl, rfl, hH, hB, hz, q⟩
  cases rx
  obtain ⟨u, rfl, ru⟩ := rv.one; cases ru
  obtain ⟨z, its, n, r, here, e⟩ := I.lstM hH
  obtain ⟨jts, r2, ⟨⟨k1, k2, k3, k4⟩, e2, hc2, n2, hd2⟩, hz2⟩ := I.tuple hB
  obtain rfl : k1 = .type "tuple" := hc2
  obtain rfl : k3 = .seq jts.toArray n2 := hd2
  have hsz : its.toArray.size + jts.toArray.size ≤ sizeLine := by
    rw [List.size_toArray, List.size_toArray, ← r.length, ← r2.length]; exact hz
  have nlong : ¬ (!its.toArray.isEmpty && Builtin.List.listTooLong (its.toArray.size + jts.toArray.size)) = true := by
    rw [notLongL hsz, Bool.and_false]; exact Bool.false_ne_true
  refine call_meets F.slot_list_extend ⟨_, e, rfl⟩ F.entry_list_extend (F.args_list_extend_2 _ _)
    (extend_tup l its.toArray n b jts.toArray n2 k2 k4 nlong (by omega) (by omega)) ⟨e, e2, ?_⟩
  refine ⟨.non, _, I.lset (its' := its ++ jts) hH e (by simp) (r.append r2) ?_, rfl, q⟩
  rw [List.length_append]
  exact hz
theorem ok_extend : BmOk X W l .extend (rExtU X.K) := fun τ φ χ H H0 h o v ds vs Q hr r rs oo => by
  unfold bm m_extend at oo
  simp only at oo
  split at oo <;> first | exact oo.elim | skip
  obtain ⟨w, rfl, rw⟩ := rs.one
  cases r with
  | ref q =>
    split at oo
    · rename_i xs ys g g2
      split at oo
      · rename_i hc
        have hc := and_true hc
        obtain ⟨ws, ha, s⟩ := hr.getL q g
        obtain ⟨b, us, rfl, hb, s2⟩ := rw.extOf hr g2
        have sw := s.append s2
        obtain ⟨x, hr2⟩ := hr.wr q g ha sw fun b hb => by
          rcases stOk_all hc.1 b hb with z | z
          · exact .inl z
          · rcases hr.limL g b hb with y | y
            · exact .inl y
            · exact .inr (by rw [unds_append, y, ← und_lst, z]; rfl)
        exact ⟨_, b, ws, us, rfl, rfl, ha, hb, by rw [← s.length, ← s2.length]; exact of_decide_eq_true hc.2, Out.same0 (H0 := H0) hr2 .non (Out.later x oo)⟩
      · exact oo.elim
    · exact oo.elim
theorem ok_insert : BmOk X W l .insert (fun x vs H Q => ∃ (l : Addr) (xs : List V) (i : Int) (y : V), x = .ref l ∧ vs = [.int i, y] ∧ H l = some (.lst xs) ∧ xs.length < sizeLine ∧ 0 ≤ i ∧ i < 2 ^ 63 ∧
    Q .non (upd H l (.lst (xs.take i.toNat ++ [y] ++ xs.drop i.toNat)))) := fun τ φ χ H H0 h o v ds vs Q hr r rs oo => by
  unfold bm m_insert at oo
  simp only at oo
  split at oo <;> first | exact oo.elim | skip
  rename_i n i d
  obtain ⟨w1, w, rfl, r1, rw⟩ := rs.two
  cases r1
  cases r with
  | ref q =>
    split at oo
    · rename_i xs g
      split at oo
      · rename_i hc
        have hc := and_true hc
        have hd := of_decide_eq_true hc.2
        obtain ⟨ws, ha, s⟩ := hr.getL q g
        have sw := ((s.take i.toNat).append (RVs.cons rw .nil)).append (s.drop i.toNat)
        obtain ⟨x, hr2⟩ := hr.wr q g ha sw fun b hb => by
          rcases stOk_all hc.1 b hb with z | z
          · exact .inl z
          · rcases hr.limL g b hb with y | y
            · exact .inl y
            · refine .inr (unds_all.mpr fun d hd => ?_)
              rcases List.mem_append.mp hd with k | k
              · rcases List.mem_append.mp k with k | k
                · exact unds_all.mp y d (List.mem_of_mem_take k)
                · rw [List.mem_singleton.mp k]; exact z
              · exact unds_all.mp y d (List.mem_of_mem_drop k)
        exact ⟨_, ws, _, w, rfl, rfl, ha, by rw [← s.length]; exact hd.1, hd.2.1, (in63_of hd.2.2).2, Out.same0 (H0 := H0) hr2 .non (Out.later x oo)⟩
      · exact oo.elim
    · exact oo.elim
theorem RVs.dropLast : ∀ {ds : List D} {vs : List V}, RVs K φ χ H ds vs → RVs K φ χ H ds.dropLast vs.dropLast := fun {ds vs} r => by
  rw [List.dropLast_eq_take, List.dropLast_eq_take, r.length]
  exact r.take _
theorem ok_pop : BmOk X W l .pop rPop := fun τ φ χ H H0 h o v ds vs Q hr r rs oo => by
  unfold bm m_pop at oo
  simp only at oo
  split at oo <;> first | exact oo.elim | skip
  cases rs
  cases r with
  | ref q =>
    split at oo
    · rename_i xs g
      split at oo
      · rename_i y gy
        obtain ⟨ws, ha, s⟩ := hr.getL q g
        obtain ⟨u, e1, ru⟩ := s.get gy
        obtain ⟨x, hr2⟩ := hr.wr q g ha s.dropLast fun b hb => by
          rcases hr.limL g b hb with y | y
          · exact .inl y
          · exact .inr (unds_all.mpr fun d hd => unds_all.mp y d (List.dropLast_subset _ hd))
        exact ⟨_, ws, u, rfl, rfl, ha, by rw [← s.length]; exact e1, Out.same0 (H0 := H0) hr2 (ru.ext x) (Out.later x oo)⟩
      · exact oo.elim
    · exact oo.elim
theorem ok_popAt : BmOk X W l .popAt rPopAt := fun τ φ χ H H0 h o v ds vs Q hr r rs oo => by
  unfold bm m_popAt at oo
  simp only at oo
  split at oo <;> first | exact oo.elim | skip
  obtain ⟨w1, rfl, r1⟩ := rs.one
  cases r1
  cases r with
  | ref q =>
    split at oo
    · rename_i xs g
      split at oo
      · rename_i k gk
        split at oo
        · rename_i y gy
          split at oo <;> first | exact oo.elim | skip
          rename_i hi
          obtain ⟨ws, ha, s⟩ := hr.getL q g
          obtain ⟨u, e1, ru⟩ := s.get gy
          obtain ⟨x, hr2⟩ := hr.wr q g ha (s.erase k) fun b hb => by
            rcases hr.limL g b hb with y | y
            · exact .inl y
            · exact .inr (unds_all.mpr fun d hd => unds_all.mp y d (List.mem_of_mem_eraseIdx hd))
          exact ⟨_, ws, _, k, u, rfl, rfl, ha, (in63_of hi).1, (in63_of hi).2, by rw [← s.length]; exact (ixN_seq (by rw [ixAt_eq]; exact gk)).1, e1, Out.same0 (H0 := H0) hr2 (ru.ext x) (Out.later x oo)⟩
        · exact oo.elim
      · exact oo.elim
    · exact oo.elim
theorem ok_reverse : BmOk X W l .reverse rReverse := fun τ φ χ H H0 h o v ds vs Q hr r rs oo => by
  unfold bm m_reverse at oo
  simp only at oo
  split at oo <;> first | exact oo.elim | skip
  cases rs
  cases r with
  | ref q =>
    split at oo
    · rename_i xs g
      obtain ⟨ws, ha, s⟩ := hr.getL q g
      obtain ⟨x, hr2⟩ := hr.wr q g ha s.rev fun b hb => by
        rcases hr.limL g b hb with y | y
        · exact .inl y
        · exact .inr (unds_all.mpr fun d hd => unds_all.mp y d (List.mem_reverse.mp hd))
      exact ⟨_, ws, rfl, rfl, ha, Out.same0 (H0 := H0) hr2 .non (Out.later x oo)⟩
    · exact oo.elim
theorem Out.newN {ds : List D} {vs : List V} {p : Addr} {Q : VK} (hr : HR X.K X.mg φ χ H l h) (rv : RVs X.K φ χ H ds vs) (hn : H p = none)
    (o : Out X W l τ φ χ H (.ok (.lst ds) h) fun φ' χ' H' d _ => ∀ v, RVf false X.K H0 φ' χ' H' d v → Q v H') : Q (.ref p) (upd H p (.lst vs)) := by
  have nc : ¬ χ p := fun q => hr.ch p q hn
  refine o φ χ _ ⟨⟨⟨[], by simp⟩, fun _ q => q, fun _ q n => absurd q n, (Ext.newL (φ := φ) (χ := χ) hn).keep, (Ext.newL (φ := φ) (χ := χ) hn).tups, (Ext.newL (φ := φ) (χ := χ) hn).frl⟩, (Ext.newL (φ := φ) (χ := χ) hn).kp, fun a q n => absurd q n⟩ ((hr.newL hn).less (fun a q => .inl q) hr.sub) _
    (.plain (.lst nc upd_same ((rv.ext (.newL hn)).less fun a q => .inl q)) (fun e => by cases e))
theorem findIdx_spec {α : Type} {p : α → Bool} {xs : List α} {j : Nat} (e : xs.findIdx? p = some j) : ∃ z, xs[j]? = some z ∧ p z = true ∧ ∀ m z', m < j → xs[m]? = some z' → p z' = false := by
  rw [List.findIdx?_eq_some_iff_getElem] at e
  obtain ⟨hj, h1, h2⟩ := e
  refine ⟨xs[j], List.getElem?_eq_getElem hj, h1, fun m z' hm hz => ?_⟩
  have := h2 m hm
  rw [List.getElem?_eq_getElem (by omega)] at hz
  cases hz
  simpa using this
theorem ok_remove : BmOk X W l .remove rRemI := fun τ φ χ H H0 h o v ds vs Q hr r rs oo => by
  unfold bm m_remove at oo
  simp only at oo
  split at oo <;> first | exact oo.elim | skip
  obtain ⟨w1, rfl, r1⟩ := rs.one
  cases r1
  cases r with
  | ref q =>
    split at oo
    · rename_i ns g
      split at oo
      · rename_i j ej
        obtain ⟨xs, g1, g2⟩ := Option.bind_eq_some_iff.mp g
        obtain ⟨ws, ha, s⟩ := hr.getL q g1
        obtain rfl := s.intsOf g2
        obtain ⟨z, h1, h2, h3⟩ := findIdx_spec ej
        obtain rfl : z = _ := by simpa using h2
        obtain ⟨x, hr2⟩ := hr.wr q g1 ha (RVs.ints (ns.eraseIdx j)) fun b hb => .inr (unds_all.mpr fun d hd => by
          obtain ⟨i, _, rfl⟩ := List.mem_map.mp hd
          simp [D.und])
        refine ⟨_, ns, _, j, rfl, rfl, ha, h1, fun m hm q => ?_, Out.same0 (H0 := H0) hr2 .non (Out.later x oo)⟩
        have := h3 m _ hm q
        simp at this
      · exact oo.elim
    · exact oo.elim
theorem ok_index : BmOk X W l .index (rIndexD X.K) := fun τ φ χ H H0 h o v ds vs Q hr r rs oo => by
  unfold bm m_index at oo
  simp only at oo
  split at oo <;> first | exact oo.elim | skip
  obtain ⟨w1, rfl, r1⟩ := rs.one
  split at oo
  · rename_i ys x e1 e2
    split at oo
    · rename_i hs
      have hs := and_true hs
      split at oo
      · rename_i j ej
        obtain ⟨es, e3, e4⟩ := Option.bind_eq_some_iff.mp e1
        obtain ⟨a, ws, rfl, q, s⟩ := r.lstOf hr e3
        obtain ⟨z, h1, h2, h3⟩ := findIdx_spec ej
        exact ⟨a, w1, x, ys, j, z, rfl, rfl, .lst (SqL.of q) (s.py hr e4), r1.py hr e2, hs.2, hs.1, h1, h2, h3, Out.same0 (H0 := H0) hr (.int _) oo⟩
      · exact oo.elim
    · exact oo.elim
  · exact oo.elim
theorem ok_count : BmOk X W l .count (rCntI X.K) := fun τ φ χ H H0 h o v ds vs Q hr r rs oo => by
  unfold bm m_count at oo
  simp only at oo
  split at oo <;> first | exact oo.elim | skip
  obtain ⟨w1, rfl, r1⟩ := rs.one
  cases r1
  split at oo
  · rename_i ns g
    obtain ⟨a, rfl, q⟩ := r.ints hr g
    exact ⟨a, ns, _, rfl, rfl, q, Out.same0 (H0 := H0) hr (.int _) oo⟩
  · exact oo.elim
theorem RVs.strsOf : ∀ {ds : List D} {vs : List V} {ns : List Str}, RVs K φ χ H ds vs → strsOf ds = some ns → vs = ns.map V.str
  | _, _, _, .nil, e => by cases e; rfl
  | _, _, _, .cons (d := d) r t, e => by
    cases r with
    | str i =>
      obtain ⟨ms, e1, rfl⟩ := Option.map_eq_some_iff.mp (show (Mp.strsOf _).map (i :: ·) = some _ from e)
      rw [RVs.strsOf t e1]; rfl
    | _ => cases e
theorem RVs.strs : ∀ (ns : List Str), RVs K φ χ H (ns.map D.str) (ns.map V.str)
  | [] => .nil
  | n :: ns => .cons (.str n) (RVs.strs ns)
theorem ok_join : BmOk X W l .join (fun x xs H Q => ∃ a p, ∃ ys : List Str, x = .str a ∧ xs = [.ref p] ∧ (SqL X.K H p (ys.map V.str) ∨ SqT X.K H p (ys.map V.str)) ∧
    (ys.map (·.length)).sum + ys.length * a.length ≤ 16777216 ∧ Q (.str (Txt.join a ys)) H) := fun τ φ χ H H0 h o v ds vs Q hr r rs oo => by
  unfold bm m_join at oo
  simp only at oo
  split at oo <;> first | exact oo.elim | skip
  obtain ⟨w1, rfl, r1⟩ := rs.one
  cases r
  split at oo
  · rename_i ys g
    split at oo
    · rename_i hz
      obtain ⟨es, e3, e4⟩ := Option.bind_eq_some_iff.mp g
      obtain ⟨a, ws, rfl, q, s⟩ := r1.seqOf hr e3
      obtain rfl := s.strsOf e4
      exact ⟨_, a, ys, rfl, rfl, q, hz, Out.same0 (H0 := H0) hr (.str _) oo⟩
    · exact oo.elim
  · exact oo.elim
theorem ok_split : BmOk X W l .split (fun x xs H Q => ∃ a b, x = .str a ∧ xs = [.str b] ∧ (b.length == 0) = false ∧ a.length + 2 ≤ sizeLine ∧ rNewStrs (Txt.split a b) H Q) := fun τ φ χ H H0 h o v ds vs Q hr r rs oo => by
  unfold bm m_split at oo
  simp only at oo
  split at oo <;> first | exact oo.elim | skip
  obtain ⟨w1, rfl, r1⟩ := rs.one
  cases r
  cases r1
  split at oo
  · rename_i hz
    exact ⟨_, _, rfl, rfl, hz.1, hz.2, fun p hp => Out.newN (H0 := H0) hr (RVs.strs _) hp oo⟩
  · exact oo.elim
end
end Mp

set_option maxRecDepth 100000
/-! Mp2h: list(range(..)), tuple(range(..)). -/
namespace Mp
open PySem PySem.Spec PyProof.Rows L2

section
variable {X : Cx} {W : WX} {l : List Nat} {τ : L2.St} {φ φ' φ1 : List Addr} {χ χ' χ1 : Ads} {H H' H1 H0 : Hp} {h h' : Hh} {K : PySem.W.Frag}
theorem tM.bltR {b : Blt} {es : EL} {r : List V → Hp → VK → Prop} (hk : BltOk X W l b r) : ∀ τ H Q, tM X W l (.blt b es) τ H Q → tCB r (tMs X W l es) τ H Q := by
  intro τ H Q ⟨φ, χ, σ, h, rs, hr, o⟩
  unfold evE at o
  refine tMs.of rs hr (o.bind.mono fun φ1 χ1 H1 ds h1 _ x1 _ g1 _ hr1 vs rvs => ?_)
  exact hk τ φ1 χ1 H1 H h1 ds vs Q hr1 rvs (fun p hn => x1.back hr1 hr hn) g1
theorem tMs.run1 {ea : E} {Q : List V → Hp → Prop} (q : tMs X W l (.cons ea .nil) τ H Q) : tM X W l ea τ H fun v H1 => Q [v] H1 := by
  obtain ⟨φ, χ, σ, h, rs, hr, o⟩ := q
  unfold evL evL at o
  refine tM.to rs hr (o.bind.mono fun φ1 χ1 H1 d1 h1 _ x1 _ g1 _ hr1 v1 rv1 => ?_)
  have g1 : Out X W l τ φ1 χ1 H1 (R.ok [d1] h1) _ := g1
  exact g1 _ _ _ .refl hr1 [v1] (.cons rv1 .nil)
theorem tMs.run2 {ea eb : E} {Q : List V → Hp → Prop} (q : tMs X W l (.cons ea (.cons eb .nil)) τ H Q) : tM X W l ea τ H fun v H1 => tM X W l eb τ H1 fun w H2 => Q [v, w] H2 := by
  obtain ⟨φ, χ, σ, h, rs, hr, o⟩ := q
  unfold evL evL evL at o
  refine tM.to rs hr (o.bind.mono fun φ1 χ1 H1 d1 h1 _ x1 _ g1 _ hr1 v1 rv1 => ?_)
  refine tM.to (rs.ext x1) hr1 (g1.bind.bind.mono fun φ2 χ2 H2 d2 h2 _ x2 _ g2 _ hr2 v2 rv2 => ?_)
  have g2 : Out X W l τ φ2 χ2 H2 (R.ok [d2] h2) _ := g2
  have g3 := g2 _ _ _ .refl hr2
  have g3 : Out X W l τ φ2 χ2 H2 (R.ok [d1, d2] h2) _ := g3
  exact g3 _ _ _ .refl hr2 [v1, v2] (.cons (rv1.ext x2) (.cons rv2 .nil))
theorem rgOk_of' {a b : Int} (h : rgOk a b = true) : RgOk a b := by
  have := rgOk_of h
  exact ⟨this.1, this.2.1, this.2.2.1, this.2.2.2.1, by omega⟩
theorem rg_rvs (a b : Int) : RVs K φ χ H (Mp.rg a b) (L2.rgV a b) := by
  have key : ∀ ns : List Nat, RVs K φ χ H (ns.map fun (i : Nat) => D.int (a + (i : Int))) (ns.map fun i => V.int (a + (i : Nat))) := fun ns => by
    induction ns with
    | nil => exact .nil
    | cons n ns ih => exact .cons (.int _) ih
  exact key _
def rLst1 : List V → Hp → VK → Prop := fun vs H Q => ∃ n, vs = [.int n] ∧ RgOk 0 n ∧ ∀ q, H q = none → Q (.ref q) (upd H q (.lst (L2.rgV 0 n)))
def rLst2 : List V → Hp → VK → Prop := fun vs H Q => ∃ a b, vs = [.int a, .int b] ∧ RgOk a b ∧ ∀ q, H q = none → Q (.ref q) (upd H q (.lst (L2.rgV a b)))
def rTup1 : List V → Hp → VK → Prop := fun vs H Q => ∃ n, vs = [.int n] ∧ RgOk 0 n ∧ ∀ q, H q = none → Q (.ref q) (upd H q (.tup (L2.rgV 0 n)))
def rTup2 : List V → Hp → VK → Prop := fun vs H Q => ∃ a b, vs = [.int a, .int b] ∧ RgOk a b ∧ ∀ q, H q = none → Q (.ref q) (upd H q (.tup (L2.rgV a b)))
theorem ok_listR1 : BltOk X W l .listR1 rLst1 := fun τ φ χ H H0 h ds vs Q hr rs fr o => by
  unfold blt b_listR1 at o
  simp only at o
  split at o <;> first | exact o.elim | skip
  split at o <;> first | exact o.elim | skip
  rename_i n hk
  obtain ⟨v, rfl, r⟩ := rs.one
  cases r
  exact ⟨n, rfl, rgOk_of' hk, fun q hq => Out.new hr (rg_rvs _ _) hq (fr q hq) o⟩
theorem ok_listR2 : BltOk X W l .listR2 rLst2 := fun τ φ χ H H0 h ds vs Q hr rs fr o => by
  unfold blt b_listR2 at o
  simp only at o
  split at o <;> first | exact o.elim | skip
  split at o <;> first | exact o.elim | skip
  rename_i hk
  obtain ⟨v, w, rfl, r, r2⟩ := rs.two
  cases r; cases r2
  exact ⟨_, _, rfl, rgOk_of' hk, fun q hq => Out.new hr (rg_rvs _ _) hq (fr q hq) o⟩
theorem ok_tupR1 : BltOk X W l .tupR1 rTup1 := fun τ φ χ H H0 h ds vs Q hr rs fr o => by
  unfold blt b_tupR1 at o
  simp only at o
  split at o <;> first | exact o.elim | skip
  split at o <;> first | exact o.elim | skip
  rename_i n hk
  obtain ⟨v, rfl, r⟩ := rs.one
  cases r
  exact ⟨n, rfl, rgOk_of' hk, fun q hq => Out.tup hr (rg_rvs _ _) hq o⟩
theorem ok_tupR2 : BltOk X W l .tupR2 rTup2 := fun τ φ χ H H0 h ds vs Q hr rs fr o => by
  unfold blt b_tupR2 at o
  simp only at o
  split at o <;> first | exact o.elim | skip
  split at o <;> first | exact o.elim | skip
  rename_i hk
  obtain ⟨v, w, rfl, r, r2⟩ := rs.two
  cases r; cases r2
  exact ⟨_, _, rfl, rgOk_of' hk, fun q hq => Out.tup hr (rg_rvs _ _) hq o⟩
theorem pa_one_inv {a : Expr} {es : EL} (h : PA X [a] (tMs X W l es)) : True := trivial
section
variable {a b : Expr} {ea eb : E} {p p2 q pos : Pos} 
theorem m_listR1 (hc : X.calm = true) (hgr : Gl X "range") (hmr : X.mg "range" = none) (hg : Gl X "list") (hm : X.mg "list" = none) (ha : PE X a (tM X W l ea)) (na : starEach [a] X.env = (false, eval a X.env) :: starEach [] X.env) :
    PE X (.Call (.Name "list" p) [.Call (.Name "range" p2) [a] [] q] [] pos) (tM X W l (.blt .listR1 (.cons ea .nil))) :=
  peImp (pe_listRg hc hg hm (prg_1 hgr hmr ha na)) fun τ H Q q => by
    have z := tMs.run1 (show tMs X W l (.cons ea .nil) τ H fun vs H1 => rLst1 vs H1 Q from tM.bltR ok_listR1 τ H Q q)
    obtain ⟨φ, χ, σ, h, rs, hr, o⟩ := z
    refine ⟨φ, χ, σ, h, rs, hr, o.mono fun φ' χ' H' d h' _ x hr' g v rv => ?_⟩
    obtain ⟨n, e, k⟩ := g v rv
    cases e
    exact ⟨n, rfl, k⟩
theorem m_listR2 (hc : X.calm = true) (hgr : Gl X "range") (hmr : X.mg "range" = none) (hg : Gl X "list") (hm : X.mg "list" = none) (ha : PE X a (tM X W l ea)) (hb : PE X b (tM X W l eb)) (na : starEach [a, b] X.env = (false, eval a X.env) :: starEach [b] X.env) (nb : starEach [b] X.env = (false, eval b X.env) :: starEach [] X.env) (hp : (backTo q (starEach [b] X.env)).any (·.1) = false) :
    PE X (.Call (.Name "list" p) [.Call (.Name "range" p2) [a, b] [] q] [] pos) (tM X W l (.blt .listR2 (.cons ea (.cons eb .nil)))) :=
  peImp (pe_listRg hc hg hm (prg_2 hgr hmr ha hb na nb hp)) fun τ H Q q => by
    have z := tMs.run2 (show tMs X W l (.cons ea (.cons eb .nil)) τ H fun vs H1 => rLst2 vs H1 Q from tM.bltR ok_listR2 τ H Q q)
    obtain ⟨φ, χ, σ, h, rs, hr, o⟩ := z
    refine ⟨φ, χ, σ, h, rs, hr, o.mono fun φ' χ' H' d h' _ x hr' g v rv => ?_⟩
    obtain ⟨φ1, χ1, σ1, h1, rs1, hr1, o1⟩ := g v rv
    refine ⟨φ1, χ1, σ1, h1, rs1, hr1, o1.mono fun φ' χ' H' d h' _ x hr' g v2 rv => ?_⟩
    obtain ⟨n, m, e, k⟩ := g v2 rv
    cases e
    exact ⟨n, m, rfl, rfl, k⟩
theorem m_tupR1 (hc : X.calm = true) (hgr : Gl X "range") (hmr : X.mg "range" = none) (hg : Gl X "tuple") (hm : X.mg "tuple" = none) (ha : PE X a (tM X W l ea)) (na : starEach [a] X.env = (false, eval a X.env) :: starEach [] X.env) :
    PE X (.Call (.Name "tuple" p) [.Call (.Name "range" p2) [a] [] q] [] pos) (tM X W l (.blt .tupR1 (.cons ea .nil))) :=
  peImp (pe_tupRg hc hg hm (prg_1 hgr hmr ha na)) fun τ H Q q => by
    have z := tMs.run1 (show tMs X W l (.cons ea .nil) τ H fun vs H1 => rTup1 vs H1 Q from tM.bltR ok_tupR1 τ H Q q)
    obtain ⟨φ, χ, σ, h, rs, hr, o⟩ := z
    refine ⟨φ, χ, σ, h, rs, hr, o.mono fun φ' χ' H' d h' _ x hr' g v rv => ?_⟩
    obtain ⟨n, e, k⟩ := g v rv
    cases e
    exact ⟨n, rfl, k⟩
theorem m_tupR2 (hc : X.calm = true) (hgr : Gl X "range") (hmr : X.mg "range" = none) (hg : Gl X "tuple") (hm : X.mg "tuple" = none) (ha : PE X a (tM X W l ea)) (hb : PE X b (tM X W l eb)) (na : starEach [a, b] X.env = (false, eval a X.env) :: starEach [b] X.env) (nb : starEach [b] X.env = (false, eval b X.env) :: starEach [] X.env) (hp : (backTo q (starEach [b] X.env)).any (·.1) = false) :
    PE X (.Call (.Name "tuple" p) [.Call (.Name "range" p2) [a, b] [] q] [] pos) (tM X W l (.blt .tupR2 (.cons ea (.cons eb .nil)))) :=
  peImp (pe_tupRg hc hg hm (prg_2 hgr hmr ha hb na nb hp)) fun τ H Q q => by
    have z := tMs.run2 (show tMs X W l (.cons ea (.cons eb .nil)) τ H fun vs H1 => rTup2 vs H1 Q from tM.bltR ok_tupR2 τ H Q q)
    obtain ⟨φ, χ, σ, h, rs, hr, o⟩ := z
    refine ⟨φ, χ, σ, h, rs, hr, o.mono fun φ' χ' H' d h' _ x hr' g v rv => ?_⟩
    obtain ⟨φ1, χ1, σ1, h1, rs1, hr1, o1⟩ := g v rv
    refine ⟨φ1, χ1, σ1, h1, rs1, hr1, o1.mono fun φ' χ' H' d h' _ x hr' g v2 rv => ?_⟩
    obtain ⟨n, m, e, k⟩ := g v2 rv
    cases e
    exact ⟨n, m, rfl, rfl, k⟩
end
end
end Mp

set_option maxRecDepth 100000
set_option maxHeartbeats 1000000
/-! Mp2o: x in range(..), x not in range(..). -/
namespace Mp
open PySem PySem.Spec PyProof.Rows L2
section
variable {X : Cx} {W : WX} {l : List Nat} {τ : L2.St} {φ φ' φ1 : List Addr} {χ χ' χ1 : Ads} {H H' H1 H0 : Hp} {h h' : Hh}
/-- a new object that is none of ours -/
theorem Ext.newX {p : Addr} {o : HO} (hn : H p = none) : Ext φ χ H φ χ (upd H p o) := by
  refine ⟨⟨⟨[], by simp⟩, fun _ q => q, fun _ q n => absurd q n, fun a u _ ho => ?_, fun a xs ho => ?_, fun a u xs ho => ?_⟩, fun a u _ ho => ?_, fun a q n => absurd q n⟩ <;> (rw [upd_ne (ne_of_none ho hn)]; exact ho)
theorem HR.newX {p : Addr} {o : HO} (r : HR X.K X.mg φ χ H l h) (hn : H p = none) : HR X.K X.mg φ χ (upd H p o) l h :=
  r.ext (.newX hn) (fun a ha => upd_ne (by obtain ⟨u, e⟩ := r.heap ha; exact ne_of_none e hn)) fun a q => by
    by_cases e : a = p
    · rw [e, upd_same]; simp
    · rw [upd_ne e]; exact r.ch a q
def rRng : List V → Hp → VK → Prop := fun vs H Q => (∃ n, vs = [V.int n] ∧ ∀ p, H p = none → Q (.ref p) (upd H p (.rng 0 n))) ∨ ∃ i j, vs = [V.int i, V.int j] ∧ ∀ p, H p = none → Q (.ref p) (upd H p (.rng i j))
theorem cr_rng : CallR X (.type "range") rRng := by
  refine CallR.or ?_ L2.cr_range2
  intro pins s σ H vs us Q I r q
  obtain ⟨n, rfl, q⟩ := q
  obtain ⟨u, rfl, r1⟩ : ∃ u, us = [u] ∧ RelV (V.int n) u := by
    cases r with
    | cons ra rb => cases rb; exact ⟨_, rfl, ra⟩
  obtain ⟨t, rfl⟩ := r1
  refine call_range_1 ⟨.ref s.heap.objs.size, upd H s.heap.objs.size (.rng 0 n), I.laid (t' := s.toks + 1 + 1) (fun b o e => Heap.get?_push_of_some _ e) (Nat.le_refl _) ?_, rfl, q _ (I.hok.fresh (Nat.le_refl _))⟩
  exact ⟨_, _, _, Heap.get?_push_size _ rfl⟩
def rInR (neg : Bool) : R2 := fun x y H Q => ∃ i a lo hi, x = V.int i ∧ y = V.ref a ∧ H a = some (.rng lo hi) ∧ Q (.bl (neg != decide (lo ≤ i ∧ i < hi))) H
theorem op_inR (neg : Bool) : OpR X (compareOp (if neg then .NotIn else .In)) (rInR neg) := by
  intro pins s σ H x y v u Q I rx ry hq
  obtain ⟨i, a, lo, hi, rfl, rfl, ha, q⟩ := hq
  obtain ⟨k, rfl⟩ := rx
  obtain rfl : u = Value.ref a := ry
  obtain ⟨t1, t2, t3, ho⟩ := I.hok a _ ha
  cases neg with
  | false =>
    show wpAny _ _ (do return Value.bool (← contains (Value.ref a) (Value.int i k))) _ _ s
    refine wpAny_bind (wpAny_contains_slot (T := "range") ⟨_, ho, rfl⟩ F.slot_range_contains (call_meets F.slot_range_contains ⟨_, ho, rfl⟩ F.entry_range_contains (F.args_range_contains_2 _ _) (L2.q_contains a lo hi i t1 t2 t3 k)
      ⟨ho, wpAny_truthy_bool (wpAny_pure ⟨.bl _, H, I, rfl, ?_⟩)⟩))
    rw [L2.place1]
    simpa using q
  | true =>
    show wpAny _ _ (do return Value.bool (!(← contains (Value.ref a) (Value.int i k)))) _ _ s
    refine wpAny_bind (wpAny_contains_slot (T := "range") ⟨_, ho, rfl⟩ F.slot_range_contains (call_meets F.slot_range_contains ⟨_, ho, rfl⟩ F.entry_range_contains (F.args_range_contains_2 _ _) (L2.q_contains a lo hi i t1 t2 t3 k)
      ⟨ho, wpAny_truthy_bool (wpAny_pure ⟨.bl _, H, I, rfl, ?_⟩)⟩))
    rw [L2.place1]
    simpa using q
theorem inR_run {ex : E} {es : EL} {neg two : Bool} : ∀ τ H Q, tM X W l (.blt (.inR neg two) (.cons ex es)) τ H Q → tOp (rInR neg) (tM X W l ex) (tCB rRng (tMs X W l es)) τ H Q := by
    intro τ H Q ⟨φ, χ, σ, h, rs, hr, o⟩
    unfold evE evL at o
    refine tM.to rs hr (o.bind.bind.mono fun φ1 χ1 H1 d1 h1 _ x1 _ g1 _ hr1 v1 rv1 => ?_)
    refine tMs.of (rs.ext x1) hr1 (g1.bind.mono fun φ2 χ2 H2 ds h2 _ x2 _ g2 _ hr2 vs rvs => ?_)
    have rd := rv1.ext x2
    have g3 := g2 _ _ _ .refl hr2
    clear g2 g1 o
    change Out X W l τ φ2 χ2 H2 (b_inR neg two h2 (d1 :: ds)) _ at g3
    unfold b_inR at g3
    have done : ∀ {i lo hi : Int} {p : Addr}, d1 = .int i → H2 p = none → (Out X W l τ φ2 χ2 H2 (R.ok (.bl (neg != decide (lo ≤ i ∧ i < hi))) h2) fun φ' χ' H' d _ => ∀ v, RVf false X.K H φ' χ' H' d v → Q v H') → rInR neg v1 (.ref p) (upd H2 p (.rng lo hi)) Q := fun {i lo hi p} e hp g => by
      subst e
      cases rd
      exact ⟨_, _, _, _, rfl, rfl, upd_same, g _ _ _ (.newX hp) (hr2.newX hp) _ (.plain (.bl _) fun q => by cases q)⟩
    split at g3
    · rename_i i b e
      injection e with e1 e2
      subst e1 e2
      obtain ⟨v, rfl, r⟩ := rvs.one
      cases r
      split at g3
      · exact .inl ⟨_, rfl, fun p hp => done rfl hp g3⟩
      · exact g3.elim
    · rename_i i a b e
      injection e with e1 e2
      subst e1 e2
      obtain ⟨v, w, rfl, r, r'⟩ := rvs.two
      cases r
      cases r'
      split at g3
      · exact .inr ⟨_, _, rfl, fun p hp => done rfl hp g3⟩
      · exact g3.elim
    · exact g3.elim
section
variable {x a : Expr} {as : List Expr} {ex : E} {es : EL} {neg two : Bool} {p pos pos' : Pos} (hg : Gl X "range") (hm : X.mg "range" = none) (hx : PE X x (tM X W l ex)) (ha : PA X (a :: as) (tMs X W l es))
    (hst : starEach (a :: as) X.env = (false, eval a X.env) :: starEach as X.env) (hpl : (backTo pos (starEach as X.env)).any (·.1) = false)
include hg hm hx ha hst hpl
theorem m_inR : PE X (.Compare x [if neg then .NotIn else .In] [.Call (.Name "range" p) (a :: as) [] pos] pos') (tM X W l (.blt (.inR neg two) (.cons ex es))) :=
  peImp (pe_cmpR (op_inR neg) hx (pe_callTy cr_rng hg hm boot_range ha (by decide) (by decide) hst hpl) (by cases neg <;> rfl)) inR_run
theorem m_inRT : PT X (.Compare x [if neg then .NotIn else .In] [.Call (.Name "range" p) (a :: as) [] pos] pos') (tMt X W l (.blt (.inR neg two) (.cons ex es))) :=
  pt_cmpv (e := x) (.blt (.inR neg two) (.cons ex es)) (pt_cmpR (op_inR neg) hx (pe_callTy cr_rng hg hm boot_range ha (by decide) (by decide) hst hpl) (by cases neg <;> rfl)) inR_run
end
end
end Mp

set_option maxRecDepth 100000
set_option maxHeartbeats 4100000
/-! Mp2l: list(reversed(x)), x a list; t[::-1], t a tuple. -/
namespace MpR
open PySem PyProof.Rows RT
section
variable {prog : Program} {w : World} {A : Around} {s : Shared} {E : Value → Shared → Prop}
theorem extend_by_rev {R : Result → Shared → Prop} {b a N : Addr} {vs : Array Value} {n0 : Nat} (calm : A.handled = none) (walker : s.heap.IsRevIter b a ((vs.size : Int) - 1)) (list : s.heap.IsList a vs) (ab : a ≠ b) (few : vs.size ≤ sizeLine)
    (na : N ≠ a) (nb : N ≠ b) (new : s.heap.get? N = some { cls := .type "list", data := .seq #[] n0 }) (res : Value)
    (next : ∀ (g : Heap) (tk : Nat) (out : Array Value) (n1 : Nat), (∀ c o, c ≠ N → c ≠ b → s.heap.get? c = some o → g.get? c = some o) → g.get? N = some { cls := .type "list", dict := none, data := .seq out n1, slots := #[] } →
      ItemsOf (fun i v => vs[vs.size - 1 - i]? = some v) out vs.size → R (.ok (.ret res)) { s with heap := g, toks := tk }) :
    wpAny (model prog w) A.in1 (Builtin.List.listExtendWith (.ref N) (.ref b) res)
      (fun end1 s2 => match end1 with | .done f => R (.ok f) s2 | .again c2 => c2.quiet = true ∧ codeAny (model prog w) A c2 R s2) (fun e2 s2 => R (.error e2) s2) s := by
  have W := (Walks.listRev (prog := prog) (w := w) (A := A.in1) calm b a ab vs).toS
  have apart : N ∉ [b, a] := by simp only [List.mem_cons, List.not_mem_nil, or_false, not_or]; exact ⟨nb, na⟩
  have kind : s.TypeIs (.ref b) "list_reverseiterator" := walker.typeIs
  have other : Builtin.List.listSameRef (.ref N) (.ref b) = false := by simp [Builtin.List.listSameRef, nb]
  unfold Builtin.List.listExtendWith; refine wpAny_bind (wpAny_typeOf kind ?_)
  rw [if_neg (by rw [other]; decide)]
  refine wpAny_bind (wpAny_pyIter_revIter walker ?_)
  refine wpAny_bind (wpAny_holding ?_); unfold Builtin.List.listLengthHint
  refine wpAny_bind (wpAny_specialOf kind nolen_lri ?_)
  show wpAny _ _ (specialOf (Value.ref b) (Str.ofString "__length_hint__") >>= _) _ _ _
  refine wpAny_bind (wpAny_specialOf kind hint_lri ?_)
  generalize named : ("list_reverseiterator.__length_hint__" : String) = name0
  wp_delta
  rw [show splitId name0 = some ("list_reverseiterator", "__length_hint__") from by subst named; decide +kernel]
  subst named
  refine wpAny_bind (wpAny_isInstance (b := true) kind (by rw [isSubtype_type]; kernel_rfl) ?_)
  refine wpAny_pure ?_
  rw [if_neg (by decide)]
  have e0 : ((vs.size : Nat) : Int) - 1 - ((0 : Nat) : Int) = (vs.size : Int) - 1 := by omega
  refine wpAny_pure ⟨plainId_quiet F.plain_extend_loop _, codeAny_extend_loopS W few N apart res vs.size 0 _ #[] n0 rfl (Nat.zero_le _) ⟨Nat.zero_le _, by rw [e0]; exact walker, list⟩ new (ItemsOf.nil _) fun s' out n1 hm there items => ?_⟩
  rw [Moved.eq_with hm]
  refine next s'.heap s'.toks out n1 (fun c o cn cb e => hm.heap c o (fun mem => ?_) e) there items
  rcases List.mem_cons.mp mem with e' | mem
  · exact cn e'
  · exact cb (List.mem_singleton.mp mem)
theorem list_of_rev {Q : Value → Shared → Prop} {b a : Addr} {vs : Array Value} (calm : A.handled = none) (walker : s.heap.IsRevIter b a ((vs.size : Int) - 1)) (list : s.heap.IsList a vs) (ab : a ≠ b) (few : vs.size ≤ sizeLine)
    (next : ∀ (g : Heap) (tk : Nat) (out : Array Value) (n1 : Nat), (∀ c o, c ≠ b → s.heap.get? c = some o → g.get? c = some o) → g.get? s.heap.objs.size = some { cls := .type "list", dict := none, data := .seq out n1, slots := #[] } →
      ItemsOf (fun i v => vs[vs.size - 1 - i]? = some v) out vs.size → Q (.ref s.heap.objs.size) { s with heap := g, toks := tk }) :
    wpAny (model prog w) A (call (.type "list") [.ref b]) Q E s := by
  refine callType_codes (Q₁ := fun ob s2 => ob = .ref s.heap.objs.size ∧ s2 = { s with heap := s.heap.push { cls := .type "list", data := .seq #[] } }) F.called_list (F.typeCall_list_1 _) F.entry_list_init
    (code_list_new _ ⟨rfl, rfl⟩) fun ob s2 both => ?_
  obtain ⟨rfl, rfl⟩ := both
  have new : (s.heap.push { cls := .type "list", data := .seq #[] }).get? s.heap.objs.size = some { cls := .type "list", data := .seq #[] } := Heap.get?_push_size _ rfl
  obtain ⟨ob, hob, _⟩ := id walker
  obtain ⟨ol, hol, _⟩ := id list
  have nb : s.heap.objs.size ≠ b := Nat.ne_of_gt (Heap.lt_size hob)
  have na : s.heap.objs.size ≠ a := Nat.ne_of_gt (Heap.lt_size hol)
  refine ⟨⟨_, new, rfl⟩, F.args_list_init_2 _ _, ?_⟩
  show wpAny _ _ (do let old ← Builtin.List.listItems (.ref s.heap.objs.size); Builtin.List.listUpdate (.ref s.heap.objs.size) (fun _ => #[]); letGo old.toList.reverse; Builtin.List.listExtendWith (.ref s.heap.objs.size) (.ref b) .none) _ _ _
  refine wpAny_bind ?_
  unfold Builtin.List.listItems
  refine wpAny_bind (wpAny_seqItems new rfl (wpAny_pure ?_))
  show wpAny _ _ (updateSeq s.heap.objs.size (fun _ => #[]) >>= fun _ => letGo (#[] : Array Value).toList.reverse >>= fun _ => Builtin.List.listExtendWith (.ref s.heap.objs.size) (.ref b) .none) _ _ _
  refine wpAny_bind (wpAny_updateSeq new rfl ?_)
  have new2 := Heap.get?_update_self (Obj.mapSeq (fun _ => (#[] : Array Value))) new rfl
  have stays : ∀ c o, c ≠ s.heap.objs.size → s.heap.get? c = some o → ((s.heap.push { cls := .type "list", data := .seq #[] }).update s.heap.objs.size (Obj.mapSeq (fun _ => (#[] : Array Value)))).get? c = some o :=
    fun c o hc e => (Heap.get?_update_other _ _ (Ne.symm hc)).trans (Heap.get?_push_of_some _ e)
  refine wpAny_bind (wpAny_letGo ?_); refine extend_by_rev (A := A.in1) calm (walker.at fun o e => stays b o (Ne.symm nb) e) ?_ ab few na nb new2 .none fun g tk out n1 keeps there items => ?_
  · obtain ⟨o, h1, h2⟩ := list
    exact ⟨o, stays a o (Ne.symm na) h1, h2⟩
  · exact ⟨rfl, next g tk out n1 (fun c o cb e => keeps c o (Nat.ne_of_lt (Heap.lt_size e)) cb (stays c o (Nat.ne_of_lt (Heap.lt_size e)) e)) there items⟩
/-! ### t[::-1] -/
theorem applied_rev {sl : Addr} {vl vu vs : Value} {n : Nat} {Q : Int × Int × Nat → Shared → Prop} (hs : s.heap.IsSliceOf sl vl vu vs) (pl : IsPart vl none) (pu : IsPart vu none) (ps : IsPart vs (some (-1)))
    (next : Q ((n : Int) - 1, -1, n) s) : wpAny (model prog w) A (Builtin.Slice.sliceApplied (.ref sl) (pure (n : Int))) Q E s := by
  obtain ⟨os, hos, hcl, hda⟩ := id hs
  unfold Builtin.Slice.sliceApplied Builtin.Slice.sliceFields; refine wpAny_bind (wpAny_bind (wpAny_field hos hda (x := vl) rfl (wpAny_bind (wpAny_field hos hda (x := vu) rfl (wpAny_bind (wpAny_field hos hda (x := vs) rfl (wpAny_pure ?_)))))))
  refine wpAny_bind (HT.slicePart_ ps ?_)
  show wpAny _ _ (if ((-1 : Int) == 0) = true then _ else _) _ _ s
  rw [if_neg (by decide)]
  refine wpAny_bind (HT.slicePart_ pl (wpAny_bind (HT.slicePart_ pu (wpAny_bind (wpAny_pure ?_)))))
  show wpAny _ _ (pure ((n : Int) - 1, (-1 : Int), Builtin.Slice.slicePlaces ((n : Int) - 1) (-1) (-1))) _ _ s
  have e : Builtin.Slice.slicePlaces ((n : Int) - 1) (-1) (-1) = n := by
    unfold Builtin.Slice.slicePlaces; simp
    try omega
  rw [e]
  exact wpAny_pure next
theorem fm_congr {α β : Type} {f g : α → Option β} : ∀ {xs : List α}, (∀ x ∈ xs, f x = g x) → xs.filterMap f = xs.filterMap g
  | [], _ => rfl
  | x :: xs, h => by
    rw [List.filterMap_cons, List.filterMap_cons, h x List.mem_cons_self, fm_congr fun y hy => h y (List.mem_cons_of_mem _ hy)]
theorem picked_rev (xs : Array Value) : ((List.range xs.size).filterMap fun (m : Nat) => xs[((xs.size : Int) - 1 + (m : Int) * -1).toNat]?).toArray = xs.toList.reverse.toArray := by
  have e : (List.range xs.size).filterMap (fun (m : Nat) => xs[((xs.size : Int) - 1 + (m : Int) * -1).toNat]?) = ((List.range xs.size).map fun k => xs.size - 1 - k).filterMap (xs[·]?) := by
    rw [List.filterMap_map]
    apply fm_congr
    intro m hm
    have := List.mem_range.mp hm
    have q : ((xs.size : Int) - 1 + (m : Int) * -1).toNat = xs.size - 1 - m := by omega
    rw [q]; rfl
  rw [e, PySem.W.krv_range, List.filterMap_reverse, PySem.W.krv_all]
theorem tuple_turned {t sl : Addr} {vs : Array Value} {vl vu vz : Value} {Q : Value → Shared → Prop} (ht : IsTup s.heap t vs) (hs : s.heap.IsSliceOf sl vl vu vz) (pl : IsPart vl none) (pu : IsPart vu none) (ps : IsPart vz (some (-1)))
    (next : Q (.ref s.heap.objs.size) { s with heap := s.heap.push { cls := .type "tuple", data := .seq vs.toList.reverse.toArray } }) (few : vs.size ≤ sizeLine) : wpAny (model prog w) A (getItem (.ref t) (.ref sl)) Q E s := by
  have fits : sizeOk (.seq vs.toList.reverse.toArray) := by
    show vs.toList.reverse.toArray.size ≤ sizeLine
    rw [List.size_toArray, List.length_reverse, Array.length_toList]; exact few
  obtain ⟨os, hos, hcl, hda⟩ := id hs
  have kind : s.TypeIs (.ref sl) "slice" := ⟨os, hos, hcl⟩
  have own := ht.typeIs
  unfold getItem; try with_reducible refine wpAny_holding ?_
  first | exact wpAny_bind (wpAny_pure (by assumption)) | refine wpAny_bind (wpAny_pure ?_) | skip
  refine wpAny_bind (wpAny_sequenceKey own (by decide) ?_)
  refine wpAny_bind (wpAny_callSpecial?_slot (name := Str.ofString "__getitem__") own PyProof.Rows.slot_tuple_getitem
    (wpAny_call_entry PyProof.Rows.slot_tuple_getitem own entry_tuple_getitem ?_ (args_tuple_getitem _ _)))
  show wpAny _ _ (Builtin.Tuple.tupleItemsOf (.ref t) >>= _) _ _ s; refine wpAny_bind (tupleItemsOf_ ht ?_)
  refine wpAny_bind (wpAny_typeOf kind ?_)
  rw [if_pos (by decide)]
  refine wpAny_bind (applied_rev hs pl pu ps ?_)
  have no : ¬ ((((vs.size : Int) - 1) == 0 && (-1 : Int) == 1 && vs.size == vs.size) = true) := by
    intro q
    simp only [Bool.and_eq_true] at q
    exact absurd q.1.2 (by decide)
  show wpAny _ _ (if (((vs.size : Int) - 1) == 0 && (-1 : Int) == 1 && vs.size == vs.size) = true then _ else _) _ _ s
  rw [if_neg no, picked_rev]
  first
    | exact wpAny_bind (m := Builtin.Tuple.tupleExact _) (wpAny_newObj_type (wpAny_pure ⟨_, rfl, wpAny_pure next⟩) fits)
    | exact wpAny_bind (m := Builtin.Tuple.tupleExact _) (wpAny_newObj_type (wpAny_bind (wpAny_pure (wpAny_pure ⟨_, rfl, wpAny_pure next⟩))) fits)
    | exact wpAny_bind (wpAny_bind (m := Builtin.Tuple.tupleExact _) (wpAny_newObj_type (wpAny_pure (wpAny_pure ⟨_, rfl, wpAny_pure next⟩)) fits))
    | exact wpAny_bind (wpAny_bind (m := Builtin.Tuple.tupleExact _) (wpAny_newObj_type (wpAny_pure ⟨_, rfl, wpAny_pure next⟩) fits))
end
end MpR

namespace Mp
open PySem PySem.Spec
open PyProof.Rows L2
section
variable {X : Cx} {W : WX} {l : List Nat}
def rTurned (K : PySem.W.Frag) : List V → Hp → VK → Prop := fun vs H Q => ∃ (a : Addr) (xs : List V), vs = [.ref a] ∧ SqL K H a xs ∧ ∀ q, H q = none → Q (.ref q) (upd H q (.lst xs.reverse))
theorem vals_turned {xs : List V} {its : List Value} {out : Array Value} (r : Vals xs its) (h : ItemsOf (fun i v => its.toArray[its.toArray.size - 1 - i]? = some v) out its.toArray.size) : Vals xs.reverse out.toList := RT.vals_rev r h
theorem pe_listTurned {e : Expr} {te : TE} {p p2 pos pos2 : Pos} (hc : X.calm = true) (hg : Gl X "list") (hm : X.mg "list" = none) (hg2 : Gl X "reversed") (hm2 : X.mg "reversed" = none) (he : PE X e te)
    (st1 : starEach [e] X.env = (false, eval e X.env) :: starEach [] X.env := by rfl)
    (st2 : starEach [.Call (.Name "reversed" p2) [e] [] pos2] X.env = (false, eval (.Call (.Name "reversed" p2) [e] [] pos2) X.env) :: starEach [] X.env := by rfl) :
    PE X (.Call (.Name "list" p) [.Call (.Name "reversed" p2) [e] [] pos2] [] pos) (fun σ H Q => te σ H fun v H1 => rTurned X.K [v] H1 Q) := by
  refine ⟨fun ps s σ H Q I run => ?_⟩
  refine Call_ (ld_blt I hg hm PyProof.Rows.boot_list (PyProof.Rows.callWith_type1 (args_cons (Call_ (ld_blt I hg2 hm2 PyProof.Rows.boot_reversed (PyProof.Rows.callWith_type1 (args_cons (thn (he.run ps s σ H _ I run) fun u s1 ⟨v, H1, I1, r1, q1⟩ => args_nil ?_) st1) st1 rfl))) st2) st2 rfl))
  obtain ⟨a, xs, ev, hq, q2⟩ := q1
  obtain rfl : v = V.ref a := by injection ev
  obtain rfl : Value.ref a = u := Eq.symm r1
  obtain ⟨its, rv, pl, hz⟩ := I1.list hq
  refine call_reversed_list pl.isList (args_nil ?_)
  have lists := pl.isList
  obtain ⟨ol, hol, _⟩ := id lists
  have ne : a ≠ s1.heap.objs.size := Nat.ne_of_lt (Heap.lt_size hol)
  have few : its.toArray.size ≤ sizeLine := by rw [List.size_toArray, ← rv.length]; exact hz
  refine MpR.list_of_rev (s := { s1 with heap := s1.heap.push (revObj a ((its.toArray.size : Int) - 1)) }) (I1.ok.hd hc) ⟨_, Heap.get?_push_size _ rfl, rfl, rfl⟩ (lists.push _) ne few fun g tk out n1 keeps there items => ?_
  have sz : (s1.heap.push (revObj a ((its.toArray.size : Int) - 1))).objs.size = s1.heap.objs.size + 1 := by simp [Heap.push]
  have up : s1.heap.objs.size ≤ (s1.heap.push (revObj a ((its.toArray.size : Int) - 1))).objs.size := by omega
  refine ⟨.ref _, upd H1 (s1.heap.push (revObj a ((its.toArray.size : Int) - 1))).objs.size (.lst xs.reverse), I1.laid (t' := tk) (fun c o e => keeps c o (Nat.ne_of_lt (Heap.lt_size e)) (Heap.get?_push_of_some _ e)) up (show ObjOk X.prog X.w _ _ _ (.lst xs.reverse) from ⟨?_, out.toList, n1, RT.vals_rev rv items, ?_⟩), rfl, q2 _ (I1.hok.fresh up)⟩
  · rw [List.length_reverse]; exact hz
  · rw [Array.toArray_toList]; exact there
theorem ok_listRev : BltOk X W l .listRev (rTurned X.K) := fun τ φ χ H H0 h ds vs Q hr rs fr o => by
  unfold blt b_listRev at o
  simp only at o
  split at o <;> first | exact o.elim | skip
  split at o <;> first | exact o.elim | skip
  rename_i d xs e
  obtain ⟨v, rfl, r⟩ := rs.one
  obtain ⟨p, us, rfl, q, z⟩ := r.listOf hr e
  exact ⟨p, us, rfl, q, fun q hq => Out.new hr z.rev hq (fr q hq) o⟩
theorem m_listRev {a : Expr} {ea : E} {p p2 q pos : Pos} (hc : X.calm = true) (hgr : Gl X "reversed") (hmr : X.mg "reversed" = none) (hg : Gl X "list") (hm : X.mg "list" = none) (ha : PE X a (tM X W l ea)) (na : starEach [a] X.env = (false, eval a X.env) :: starEach [] X.env) :
    PE X (.Call (.Name "list" p) [.Call (.Name "reversed" p2) [a] [] q] [] pos) (tM X W l (.blt .listRev (.cons ea .nil))) :=
  peImp (pe_listTurned hc hg hm hgr hmr ha na) fun τ H Q q => by
    have z := tMs.run1 (show tMs X W l (.cons ea .nil) τ H fun vs H1 => rTurned X.K vs H1 Q from tM.bltR ok_listRev τ H Q q)
    exact z
/-! ### x[::-1] -/
theorem pe_revA {e : Expr} {te : TE} {k : Nat} {p1 p2 p3 pos : Pos} (he : PE X e te) : PE X (.Subscript e (.Slice none none (some (.UnaryOp .USub (.Constant (.int 1) k p1) p2)) p3) pos)
    (fun σ H Q => te σ H fun x H1 => ∃ a xs, x = .ref a ∧ ((SqL X.K H1 a xs ∧ ∀ p, H1 p = none → Q (.ref p) (upd H1 p (.lst xs.reverse))) ∨ (SqT X.K H1 a xs ∧ ∀ p, H1 p = none → Q (.ref p) (upd H1 p (.tup xs.reverse))))) := by
  refine ⟨fun pn s σ H Q I run => ?_⟩
  refine Subscript_ (thn (he.run pn s σ H _ I run) fun v z1 ⟨x, H1, J1, r1, q1⟩ => ?_)
  obtain ⟨a, xs, ex, hx⟩ := q1
  subst ex
  cases r1
  have step : PO X (some (.UnaryOp .USub (.Constant (.int 1) k p1) p2)) (tPart (tUn (rU fun i => .int (-i)) (tC (.int 1)))) := po_some (pe_un un_neg pe_int)
  refine wpAny_Slice (thn (po_none.run pn z1 σ H1 (fun o H2 => o = none ∧ H2 = H1) J1 ⟨rfl, rfl⟩) fun vl z2 ⟨l, H2, J2, pl, el, e2⟩ => ?_)
  subst el e2
  refine thn (po_none.run pn z2 σ H2 (fun o H3 => o = none ∧ H3 = H2) J2 ⟨rfl, rfl⟩) fun vu z3 ⟨u, H3, J3, pu, eu, e3⟩ => ?_
  subst eu e3
  refine thn (step.run pn z3 σ H3 (fun o H4 => o = some (-1) ∧ H4 = H3) J3 ⟨1, rfl, -1, rfl, rfl, rfl⟩) fun vs z4 ⟨o, H4, J4, ps, eo, e4⟩ => ?_
  subst eo e4
  have J5 : Inv X pn σ H4 { z4 with heap := z4.heap.push { cls := .type "slice", data := .fields #[vl, vu, vs] } } := J4.kept (t' := z4.toks) fun b ob q => Heap.get?_push_of_some _ q
  show wpAny (model X.prog X.w) X.A (subscriptTail e (.Slice none none (some (.UnaryOp .USub (.Constant (.int 1) k p1) p2)) p3) (.ref a) (.ref z4.heap.objs.size)) (EP X pn σ Q) X.xe { z4 with heap := z4.heap.push { cls := .type "slice", data := .fields #[vl, vu, vs] } }
  rcases hx with ⟨hx, q⟩ | ⟨hx, q⟩
  · obtain ⟨its, r, hl, hz⟩ := J5.list hx
    have hlen := r.length
    refine tail_any (ops := [.ref a, .ref z4.heap.objs.size]) hl.isList.typeIs (PySem.slot_list_getitem.lookup) ?_ (by with_unfolding_all rfl)
    refine wpAny_getItem_list_slice hl.isList (Heap.IsSliceOf.new _ vl vu vs) pl pu ps (by decide) ?_ (by rw [List.size_toArray]; omega)
    rw [PySem.W.krv_pick]
    refine ⟨.ref _, _, J5.laid (t' := z4.toks) (o := .lst xs.reverse) (fun b ob q => Heap.get?_push_of_some _ q) (Nat.le_refl _) ?_, rfl, q _ (J5.hok.fresh (Nat.le_refl _))⟩
    exact ⟨(by rw [List.length_reverse]; exact hz), _, 0, r.reverse, Heap.get?_push_size _ rfl⟩
  · obtain ⟨its, r, hl, hz⟩ := J5.tuple hx
    have hlen := r.length
    refine tail_any (ops := [.ref a, .ref z4.heap.objs.size]) hl.typeIs (PyProof.Rows.slot_tuple_getitem.lookup) ?_ (by with_unfolding_all rfl)
    refine MpR.tuple_turned hl (Heap.IsSliceOf.new _ vl vu vs) pl pu ps ?_ (by rw [List.size_toArray]; omega)
    refine ⟨.ref _, _, J5.laid (t' := z4.toks) (o := .tup xs.reverse) (fun b ob q => Heap.get?_push_of_some _ q) (Nat.le_refl _) ?_, rfl, q _ (J5.hok.fresh (Nat.le_refl _))⟩
    exact ⟨by rw [List.length_reverse]; exact hz, _, r.reverse, IsTup.new _ _⟩
theorem m_rev {a : Expr} {ea : E} {k : Nat} {p1 p2 p3 pos : Pos} (ha : PE X a (tM X W l ea)) : PE X (.Subscript a (.Slice none none (some (.UnaryOp .USub (.Constant (.int 1) k p1) p2)) p3) pos) (tM X W l (.rev ea)) := by
  refine peImp (pe_revA ha) fun τ H Q ⟨φ, χ, σ, h, rs, hr, o⟩ => ?_
  unfold evE at o
  refine tM.to rs hr (o.bind.mono fun φ1 χ1 H1 d1 h1 _ x1 _ g1 _ hr1 v1 rv1 => ?_)
  unfold revV at g1
  split at g1
  · cases rv1 with
    | tup t q => exact ⟨_, _, rfl, .inr ⟨t.sq, fun p hp => Out.tup hr1 q.rev hp g1⟩⟩
  · split at g1
    · rename_i xs e
      obtain ⟨p, vs, rfl, q, s⟩ := rv1.listOf hr1 e
      exact ⟨p, vs, rfl, .inl ⟨q, fun q hq => Out.new hr1 s.rev hq (x1.back hr1 hr hq) g1⟩⟩
    · exact g1.elim
end
end Mp

set_option maxRecDepth 100000
/-! Mp2m: dicts with ints and texts as keys. -/
namespace Mp
open PySem PySem.Spec PyProof.Rows L2

section
variable {X : Cx} {W : WX} {l : List Nat} {τ : L2.St} {φ φ' φ1 : List Addr} {χ χ' χ1 : Ads} {H H' H1 H0 : Hp} {h h' : Hh} {α β : Type} {K : PySem.W.Frag} {mg : Str → Option Value}
theorem getK_at {n : Nat} {kvs : List (Ky × D)} (g : Mp.getK h n = some kvs) : h[n]? = some (.dk kvs) := by
  unfold Mp.getK at g
  split at g
  · rename_i q; cases g; exact q
  · cases g
theorem HR.getK (r : HR K mg φ χ H l h) {n : Nat} {a : Addr} {kvs : List (Ky × D)} (e : φ[n]? = some a) (g : Mp.getK h n = some kvs) : ∃ ws : List (L2.Key × V), H a = some (.dK ws) ∧ ws.map (·.1) = kvs.map (·.1) ∧ RVs K φ χ H (kvs.map (·.2)) (ws.map (·.2)) := by
  have o := r.ob n a _ e (getK_at g)
  cases o with
  | dk e1 e2 e3 => exact ⟨_, e1, e2, e3⟩
theorem keyOf_rv {d : D} {v : V} {k : Ky} (rv : RV K φ χ H d v) (e : keyOf d = some k) : v = kV k := by
  cases rv with
  | int i => cases e; rfl
  | str s => cases e; rfl
  | _ => cases e
theorem look_rv {k : Ky} : ∀ {kvs : List (Ky × D)} {ws : List (L2.Key × V)} {d : D}, ws.map (·.1) = kvs.map (·.1) → RVs K φ χ H (kvs.map (·.2)) (ws.map (·.2)) → lookK kvs k = some d → ∃ v, valV ws k = some v ∧ RV K φ χ H d v
  | [], ws, d, e, r, g => by simp [lookK] at g
  | p :: kvs, [], d, e, r, g => by simp at e
  | p :: kvs, q :: ws, d, e, r, g => by
    simp only [List.map_cons, List.cons.injEq] at e r
    obtain ⟨e1, e2⟩ := e
    cases r with
    | cons r1 r2 =>
      by_cases c : p.1 = k
      · have : lookK (p :: kvs) k = some p.2 := by simp [lookK, List.find?_cons, c]
        rw [this] at g
        cases g
        exact ⟨q.2, valV_pos (e1.trans c), r1⟩
      · have : lookK (p :: kvs) k = lookK kvs k := by simp [lookK, List.find?_cons, c]
        rw [this] at g
        obtain ⟨v, h1, h2⟩ := look_rv e2 r2 g
        exact ⟨v, by rw [valV_neg (by rw [e1]; exact c)]; exact h1, h2⟩
theorem any_key {k : Ky} : ∀ {kvs : List (Ky × D)} {ws : List (L2.Key × V)}, ws.map (·.1) = kvs.map (·.1) → (ws.any fun kv => decide (kv.1 = k)) = kvs.any fun kv => decide (kv.1 = k)
  | [], [], _ => rfl
  | [], _ :: _, e => by simp at e
  | _ :: _, [], e => by simp at e
  | p :: kvs, q :: ws, e => by
    simp only [List.map_cons, List.cons.injEq] at e
    rw [List.any_cons, List.any_cons, e.1, any_key e.2]
theorem repl_rv {k : Ky} {d : D} {v : V} (rd : RV K φ χ H d v) : ∀ {kvs : List (Ky × D)} {ws : List (L2.Key × V)}, ws.map (·.1) = kvs.map (·.1) → RVs K φ χ H (kvs.map (·.2)) (ws.map (·.2)) →
    (ws.map fun kv => if kv.1 = k then (kv.1, v) else kv).map (·.1) = (kvs.map fun kv => if kv.1 = k then (kv.1, d) else kv).map (·.1) ∧ RVs K φ χ H ((kvs.map fun kv => if kv.1 = k then (kv.1, d) else kv).map (·.2)) ((ws.map fun kv => if kv.1 = k then (kv.1, v) else kv).map (·.2))
  | [], [], _, _ => ⟨rfl, .nil⟩
  | [], _ :: _, e, _ => by simp at e
  | _ :: _, [], e, _ => by simp at e
  | p :: kvs, q :: ws, e, r => by
    simp only [List.map_cons, List.cons.injEq] at e r
    cases r with
    | cons r1 r2 =>
      obtain ⟨h1, h2⟩ := repl_rv rd e.2 r2
      rw [List.map_cons, List.map_cons, List.map_cons, List.map_cons, List.map_cons, List.map_cons, h1, e.1]
      by_cases c : p.1 = k
      · rw [if_pos c, if_pos c]
        exact ⟨rfl, .cons rd h2⟩
      · rw [if_neg c, if_neg c]
        exact ⟨by rw [e.1], .cons r1 h2⟩
theorem put_rv {k : Ky} {d : D} {v : V} (rd : RV K φ χ H d v) {kvs : List (Ky × D)} {ws : List (L2.Key × V)} (e : ws.map (·.1) = kvs.map (·.1)) (r : RVs K φ χ H (kvs.map (·.2)) (ws.map (·.2))) :
    (putK ws k v).map (·.1) = (putD kvs k d).map (·.1) ∧ RVs K φ χ H ((putD kvs k d).map (·.2)) ((putK ws k v).map (·.2)) := by
  unfold putK putD
  rw [any_key e]
  split
  · exact repl_rv rd e r
  · refine ⟨by rw [List.map_append, List.map_append, e]; rfl, ?_⟩
    rw [List.map_append, List.map_append]
    exact r.append (.cons rd .nil)
theorem nd_snocA {p : Addr} (nd : φ.Nodup) (n : p ∉ φ) : (φ ++ [p]).Nodup := by
  rw [List.nodup_append]
  refine ⟨nd, by simp, fun a ha b hb e => ?_⟩
  rw [List.mem_singleton] at hb
  rw [e, hb] at ha
  exact n ha
/-- a new dict -/
theorem HR.new_dk {p : Addr} (r : HR K mg φ χ H l h) (hn : H p = none) : Ext φ χ H (φ ++ [p]) (fun a => χ a ∨ a = p) (upd H p (.dK [])) ∧ HR K mg (φ ++ [p]) (fun a => χ a ∨ a = p) (upd H p (.dK [])) l (h ++ [.dk []]) := by
  have np : p ∉ φ := fun q => r.ch p (r.sub p q) hn
  have x : Ext φ χ H (φ ++ [p]) (fun a => χ a ∨ a = p) (upd H p (.dK [])) := by
    refine ⟨⟨⟨[p], rfl⟩, fun _ q => .inl q, fun a q n => q.elim (fun z => absurd z n) fun z => by rw [z]; exact hn, fun a o _ ho => ?_, fun a xs ho => ?_, fun a o xs ho => ?_⟩, fun a o _ ho => ?_, fun a q n => ?_⟩
    · rw [upd_ne (ne_of_none ho hn)]; exact ho
    · rw [upd_ne (ne_of_none ho hn)]; exact ho
    · rw [upd_ne (ne_of_none ho hn)]; exact ho
    · rw [upd_ne (ne_of_none ho hn)]; exact ho
    · rcases List.mem_append.mp q with z | z
      · exact absurd z n
      · rw [List.mem_singleton] at z; rw [z]; exact hn
  refine ⟨x, by rw [List.length_append, List.length_append, r.len]; rfl, nd_snocA r.nd np, fun a ha => ?_, fun n a o e1 e2 => ?_, fun b hb n o hn' e => ?_, fun b hb => ?_, fun a q => ?_⟩
  · rcases List.mem_append.mp ha with q | q
    · exact .inl (r.sub a q)
    · rw [List.mem_singleton] at q; exact .inr q
  · by_cases hn' : n < φ.length
    · rw [List.getElem?_append_left hn'] at e1
      rw [List.getElem?_append_left (by rw [← r.len]; exact hn')] at e2
      exact (r.ob n a o e1 e2).ext x (upd_ne fun z => np (z ▸ List.mem_of_getElem? e1))
    · rw [List.getElem?_append_right (by omega)] at e1
      rw [List.getElem?_append_right (by rw [← r.len]; omega)] at e2
      rw [← r.len] at e2
      cases hk : n - φ.length with
      | zero =>
        rw [hk] at e1 e2
        simp at e1 e2
        subst e1; subst e2
        exact .dk upd_same rfl .nil
      | succ k => rw [hk] at e1; simp at e1
  · have hb' := r.top b hb
    rw [List.getElem?_append_left (by omega)] at e
    exact r.lim b hb n o hn' e
  · have hb' := r.top b hb
    rw [List.length_append]
    omega
  · by_cases z : a = p
    · rw [z, upd_same]; simp
    · rw [upd_ne z]; exact r.ch a (q.resolve_right z)
theorem m_dnew {pos : Pos} : PE X (.Dict [] [] pos) (tM X W l (.blt .dnew .nil)) := by
  refine peImp pe_dnewK fun τ H Q ⟨φ, χ, σ, h, rs, hr, o⟩ p hp => ?_
  obtain ⟨x, hr'⟩ := hr.new_dk hp
  unfold evE evL at o
  have o : Out X W l τ φ χ H (.ok (.ref h.length) (h ++ [.dk []])) (fun φ' χ' H' d _ => ∀ v, RVf (E.blt .dnew .nil).fresh X.K H φ' χ' H' d v → Q v H') := o
  exact o _ _ _ x hr' _ (.plain (.ref (by rw [← hr.len, List.getElem?_append_right (Nat.le_refl _), Nat.sub_self]; rfl)) fun q => nomatch q)
theorem m_dget {o i : Expr} {eo ei : E} {pos : Pos} (hu : X.A.units + 1 < cLine) (hs : NoSl i) (ho : PE X o (tM X W l eo)) (hi : PE X i (tM X W l ei)) : PE X (.Subscript o i pos) (tM X W l (.blt .dget (.cons eo (.cons ei .nil)))) := by
  refine peImp (pe_dget hu ho hi hs) fun τ H Q ⟨φ, χ, σ, h, rs, hr, o⟩ => ?_
  have ev : evE l (.blt .dget (.cons eo (.cons ei .nil))) σ h = (evE l eo σ h).bind fun x h => (evE l ei σ h).bind fun y h => b_dget h [x, y] := by
    conv => lhs; unfold evE
    unfold evL
    cases evE l eo σ h with
    | bad => rfl
    | ex c fs h' => rfl
    | ok x h1 =>
      simp only [R.bind_ok]
      unfold evL
      cases evE l ei σ h1 with
      | bad => rfl
      | ex c fs h' => rfl
      | ok y h2 =>
        simp only [R.bind_ok]
        unfold evL
        rfl
  rw [ev] at o
  refine tM.to rs hr (o.bind.mono fun φ1 χ1 H1 d1 h1 _ x1 _ g1 _ hr1 v1 rv1 => ?_)
  refine tM.to (rs.ext x1) hr1 (g1.bind.mono fun φ2 χ2 H2 d2 h2 _ x2 _ g2 _ hr2 v2 rv2 => ?_)
  have rv1' := rv1.ext x2
  unfold b_dget at g2
  split at g2
  · rename_i n y heq
    cases heq
    split at g2
    · rename_i kvs k ek eo
      split at g2
      · rename_i d el
        cases rv1' with
        | ref q =>
          obtain ⟨ws, ha, e1, r1⟩ := hr2.getK q ek
          obtain ⟨v, ev, rv⟩ := look_rv e1 r1 el
          have := keyOf_rv rv2 eo
          subst this
          exact ⟨_, v, rfl, by rw [← ev]; exact DGet.k ha, Out.same0 (H0 := H) hr2 rv g2⟩
      · exact g2.elim
    · exact g2.elim
  · exact g2.elim
theorem intsK_eq : ∀ {ks : List Ky} {ns : List Int}, intsK ks = some ns → ks = ns.map Sum.inl
  | [], ns, e => by cases e; rfl
  | .inl i :: r, ns, e => by
    obtain ⟨ms, e1, rfl⟩ := Option.map_eq_some_iff.mp (show (intsK r).map (i :: ·) = some ns from e)
    rw [intsK_eq e1]; rfl
  | .inr _ :: _, _, e => by cases e
theorem ok_sortedD : BltOk X W l .sortedD (fun xs H Q => ∃ (a : Addr) (kvs : List (Key × V)) (ks : List Int), xs = [.ref a] ∧ Rd H a (.dK kvs) ∧ kvs.map (·.1) = ks.map Sum.inl ∧ ks.length < 64 ∧
    ∀ (ys : List Int) (p : Addr), ys.Perm ks → ys.Pairwise (· ≤ ·) → H p = none → Q (.ref p) (upd H p (.lst (ys.map V.int)))) := fun τ φ χ H H0 h ds vs Q hr rs fr o => by
  unfold blt b_sortedD at o
  simp only at o
  split at o <;> first | exact o.elim | skip
  obtain ⟨v, rfl, r⟩ := rs.one
  split at o
  · rename_i ns e
    obtain ⟨kvs, e1, e2⟩ := Option.bind_eq_some_iff.mp e
    split at o
    · rename_i hl
      cases r with
      | ref q =>
        obtain ⟨ws, ha, ek, rk⟩ := hr.getK q e1
        refine ⟨_, ws, ns, rfl, .inl ha, by rw [ek, intsK_eq e2], hl, fun ms p pm so hp => ?_⟩
        rw [sorted_eq (pm.trans (sort_perm ns).symm) so (sort_sorted ns)]
        exact Out.new (H0 := H0) (fr := true) hr (RVs.ints _) hp (fr p hp) o
    · exact o.elim
  · exact o.elim
/-- a dict of ours is written -/
theorem HR.wrK {n : Nat} {a : Addr} {kvs es : List (Ky × D)} {us ws : List (L2.Key × V)} (hr : HR K mg φ χ H l h) (e : φ[n]? = some a) (g : Mp.getK h n = some kvs) (ha : H a = some (.dK us)) (ek : ws.map (·.1) = es.map (·.1)) (rs : RVs K φ χ H (es.map (·.2)) (ws.map (·.2)))
    (st : ∀ b ∈ l, b ≤ n ∨ ∀ p ∈ es, p.2.und b = true) : Ext φ χ H φ χ (upd H a (.dK ws)) ∧ HR K mg φ χ (upd H a (.dK ws)) l (h.set n (.dk es)) := by
  have hx : χ a := hr.sub a (List.mem_of_getElem? e)
  have x : Ext φ χ H φ χ (upd H a (.dK ws)) := by
    refine ⟨⟨⟨[], by simp⟩, fun _ q => q, fun _ q z => absurd q z, fun b o nb ho => ?_, fun b xs ho => ?_, fun b o xs ho => ?_⟩, fun b o nb ho => ?_, fun a q n => absurd q n⟩
    · rw [upd_ne (fun z => nb (by rw [z]; exact hx))]; exact ho
    · rw [upd_ne (fun z => by rw [z, ha] at ho; cases ho)]; exact ho
    · rw [upd_ne (fun z => by rw [z, ha] at ho; cases ho)]; exact ho
    · rw [upd_ne (fun z => nb (by rw [z]; exact List.mem_of_getElem? e))]; exact ho
  have hn : n < h.length := (List.getElem?_eq_some_iff.mp (getK_at g)).1
  refine ⟨x, by rw [List.length_set]; exact hr.len, hr.nd, hr.sub, fun m b o e1 e2 => ?_, fun b hb m o hm e2 => ?_, fun b hb => by rw [List.length_set]; exact hr.top b hb, fun b hb => ?_⟩
  · by_cases hmn : n = m
    · subst hmn
      rw [e] at e1; cases e1
      rw [List.getElem?_set_self hn] at e2; cases e2
      exact .dk upd_same ek (rs.ext x)
    · rw [List.getElem?_set_ne hmn] at e2
      have nab : b ≠ a := fun z => by
        subst z
        obtain ⟨l1, q1⟩ := List.getElem?_eq_some_iff.mp e
        obtain ⟨l2, q2⟩ := List.getElem?_eq_some_iff.mp e1
        exact hmn ((List.getElem_inj hr.nd).mp (q1.trans q2.symm))
      exact (hr.ob m b o e1 e2).ext x (upd_ne nab)
  · by_cases hmn : n = m
    · subst hmn
      rw [List.getElem?_set_self hn] at e2; cases e2
      rcases st b hb with q | q
      · omega
      · exact q
    · rw [List.getElem?_set_ne hmn] at e2
      exact hr.lim b hb m o hm e2
  · by_cases z : b = a
    · rw [z, upd_same]; simp
    · rw [upd_ne z]; exact hr.ch b hb
theorem HR.limK (hr : HR K mg φ χ H l h) {n : Nat} {kvs : List (Ky × D)} (g : Mp.getK h n = some kvs) : ∀ b ∈ l, b ≤ n ∨ ∀ p ∈ kvs, p.2.und b = true := fun b hb => by
  by_cases q : n < b
  · exact .inr (hr.lim b hb n _ q (getK_at g))
  · exact .inl (by omega)
theorem und_putD {b : Nat} {kvs : List (Ky × D)} {k : Ky} {d : D} (h1 : ∀ p ∈ kvs, p.2.und b = true) (h2 : d.und b = true) : ∀ p ∈ putD kvs k d, p.2.und b = true := fun p hp => by
  unfold putD at hp
  split at hp
  · obtain ⟨q, hq, rfl⟩ := List.mem_map.mp hp
    split
    · exact h2
    · exact h1 q hq
  · rcases List.mem_append.mp hp with z | z
    · exact h1 p z
    · rw [List.mem_singleton] at z; subst z; exact h2
/-- the store into a dict -/
theorem setDk_ok {n : Nat} {k : Ky} {d : D} {v w : V} {u : V} (hr : HR X.K X.mg φ χ H l h) (ro : RV X.K φ χ H (.ref n) w) (ek : u = kV k) (rd : RV X.K φ χ H d v) (o : setDk l h n k d ≠ .bad) :
    ∃ a H', w = .ref a ∧ DPut H a u v H' ∧ Ext φ χ H φ χ H' ∧ ∃ h', HR X.K X.mg φ χ H' l h' ∧ setDk l h n k d = .ok () h' := by
  unfold setDk at o ⊢
  split at o
  · rename_i kvs e
    split at o
    · rename_i hst
      cases ro with
      | ref q =>
        obtain ⟨us, ha, e1, r1⟩ := hr.getK q e
        obtain ⟨h1, h2⟩ := and_true hst
        obtain ⟨k1, k2⟩ := put_rv (k := k) rd e1 r1
        obtain ⟨x, hr'⟩ := hr.wrK q e ha k1 k2 fun b hb => by
          rcases stOk_all h1 b hb with z | z
          · exact .inl z
          · rcases hr.limK e b hb with y | y
            · exact .inl y
            · exact .inr (und_putD y z)
        have ll : us.length < sizeLine := by
          have := congrArg List.length e1
          rw [List.length_map, List.length_map] at this
          rw [this]; exact of_decide_eq_true h2
        subst ek
        exact ⟨_, _, rfl, DPut.k ha ll, x, _, hr', by rw [if_pos hst]⟩
    · exact absurd rfl o
  · exact absurd rfl o
/-! the parts of the values -/
theorem parts_get {k : Nat} : ∀ {ds xs : List D}, partsK k ds = some xs → ds.length = xs.length ∧ ∀ (i : Nat) (x : D), xs[i]? = some x → ∃ es : List D, ds[i]? = some (D.tup es) ∧ es[k]? = some x
  | [], xs, e => by
    cases e
    exact ⟨rfl, fun i x h => by rw [List.getElem?_nil] at h; cases h⟩
  | .tup ds :: r, xs, e => by
    unfold partsK at e
    split at e
    · rename_i x ys e1 e2
      cases e
      obtain ⟨h1, h2⟩ := parts_get e2
      refine ⟨by simp [h1], fun i y hy => ?_⟩
      cases i with
      | zero => simp at hy; subst hy; exact ⟨ds, rfl, e1⟩
      | succ i => exact h2 i y (by simpa using hy)
    · cases e
  | .non :: _, _, e => by cases e
  | .bl _ :: _, _, e => by cases e
  | .int _ :: _, _, e => by cases e
  | .str _ :: _, _, e => by cases e
  | .lst _ :: _, _, e => by cases e
  | .ref _ :: _, _, e => by cases e
  | .scr _ :: _, _, e => by cases e
  | .exc _ _ :: _, _, e => by cases e
  | .fn _ :: _, _, e => by cases e
theorem updH_swap {a b : Addr} {u v w : HO} {H : Hp} (n : a ≠ b) : upd (upd (upd H a u) b v) a w = upd (upd H a w) b v := by
  funext c
  unfold upd
  by_cases h1 : c = a
  · subst h1; simp [n]
  · simp [h1]
theorem updH_self {H : Hp} {a : Addr} {u : HO} (h : H a = some u) : upd H a u = H := by
  funext c
  unfold upd
  split
  · rename_i e; rw [e, h]
  · rfl
theorem get_rv : ∀ {ds : List D} {vs : List V} {i : Nat} {d : D} {v : V}, RVs K φ χ H ds vs → ds[i]? = some d → vs[i]? = some v → RV K φ χ H d v
  | [], _, i, d, v, _, e, _ => by simp at e
  | a :: ds, _, 0, d, v, .cons r _, e, e2 => by
    simp at e e2
    subst e; subst e2; exact r
  | a :: ds, _, i + 1, d, v, .cons _ t, e, e2 => get_rv t (by simpa using e) (by simpa using e2)
/-- [x[k] for x in d.values()] -/
theorem m_vals {i j k kk : Nat} {y : Str} {py pc pos spos apos cpos : Pos} {o : Expr} {scope : Scope} {own : List (Str × Nat)} {tgx : Expr} (hc : X.calm = true) (hN : X.N.Nodup) (ok : BlkOk X.N X.env.scope scope own) (ho : own.map (·.2) = [i])
    (pd : PE X o (tVar j)) (hbase : attributeBase o "values" X.env (eval o X.env) = eval o X.env) (hline : (apos.endLine == cpos.line) = true)
    (hg : ∀ (s : Shared) (H : Hp) (C : Addr) (cl : List (Str × Addr)) (fp : List Addr), PG (X.blk s H scope (compEnvC scope cl C X.env) fp) tgx (gName i))
    (he : ∀ (s : Shared) (H : Hp) (C : Addr) (cl : List (Str × Addr)) (fp : List Addr), PE (X.blk s H scope (compEnvC scope cl C X.env) fp) (.Name y py) (tVar i)) :
    PE X (.ListComp (.Subscript (.Name y py) (.Constant (.int (k : Int)) kk pc) spos) [⟨tgx, .Call (.Attribute o "values" apos) [] [] cpos, [], 0⟩] scope pos) (tM X W l (.vals i k j)) := by
  have he' : ∀ (s : Shared) (H : Hp) (C : Addr) (cl : List (Str × Addr)) (fp : List Addr), PE (X.blk s H scope (compEnvC scope cl C X.env) fp) (.Subscript (.Name y py) (.Constant (.int (k : Int)) kk pc) spos) (tOp (rIx X.K) (tVar i) (tC (.int (k : Int)))) :=
    fun s H C cl fp => pe_ix (ix_seq (X := X.blk s H scope (compEnvC scope cl C X.env) fp)) (he s H C cl fp) pe_int (fun _ _ => rfl)
  refine peImp (pe_lock (pe_lc hc hN (pi_values pd hbase hline) ok hg (fun _ _ _ _ _ => pts_nil) he' (fun _ => rfl))) fun τ H Q ⟨φ, χ, σ, h, rs, hr, oo⟩ => ?_
  rw [ho]
  unfold evE varV at oo
  split at oo
  case h_2 => exact oo.elim
  rename_i d ed
  simp only [R.bind_ok] at oo
  split at oo
  case isFalse => exact oo.elim
  rename_i nij
  unfold valsV at oo
  split at oo
  case h_2 => exact oo.elim
  rename_i n
  split at oo
  case h_2 => exact oo.elim
  rename_i xs exs
  split at oo
  case isFalse => exact oo.elim
  rename_i hl
  obtain ⟨hl, hk⟩ := hl
  obtain ⟨kvs, e1, e2⟩ := Option.bind_eq_some_iff.mp exs
  obtain ⟨v, ev, rv⟩ := rs.at_ j _ ed
  cases rv with
  | @ref n a q =>
    obtain ⟨ws, ha, ek, rk⟩ := hr.getK q e1
    obtain ⟨lxs, gx⟩ := parts_get e2
    have lw : ws.length = xs.length := by
      have := rk.length
      rw [List.length_map, List.length_map] at this
      rw [List.length_map] at lxs
      omega
    refine ⟨a, .dK ws, ha, trivial, fun od => ⟨.ref a, ev, a, od, ws, rfl, upd_same, fun Da hD => ?_⟩⟩
    have hs0 := rs.len
    have nDa : Da ≠ a := fun z => by rw [z, upd_same] at hD; cases hD
    have hD0 : H Da = none := by rw [upd_ne nDa] at hD; exact hD
    have xL : ∀ vs : List V, (upd (upd H a (.frz od (.dK ws))) Da (.lst vs)) a = some (.frz od (.dK ws)) := fun vs => by rw [upd_ne (Ne.symm nDa), upd_same]
    have dl : ∀ vs : List V, (upd (upd H a (.frz od (.dK ws))) Da (.lst vs)) Da = some (.lst vs) := fun vs => upd_same
    refine ⟨fun c m H' => c ≤ xs.length ∧ m = xs.length - c ∧ ∃ vs : List V, RVs X.K φ χ H (xs.take c) vs ∧ H' = upd (upd H a (.frz od (.dK ws))) Da (.lst vs), ⟨_, Nat.zero_le _, rfl, [], by simpa using RVs.nil, rfl⟩, ?_⟩
    rintro c m H' ⟨hc1, rfl, vs, rvs, rfl⟩
    have lvs : vs.length = c := by rw [← rvs.length, List.length_take]; omega
    by_cases hlt : c < xs.length
    · refine .inr ⟨⟨xL vs, by omega⟩, fun H' => ∃ v, RV X.K φ χ H xs[c] v ∧ H' = upd (upd H a (.frz od (.dK ws))) Da (.lst (vs ++ [v])), ?_, ?_⟩
      · rintro H' ⟨v, rv, rfl⟩
        refine ⟨_, by omega, hlt, rfl, vs ++ [v], ?_, rfl⟩
        rw [List.take_succ_eq_append_getElem hlt]
        exact rvs.append (.cons rv .nil)
      · rintro x H' ⟨rfl, key, ex⟩
        refine ⟨by simp [L2.wipe], ?_⟩
        show tOp (rIx X.K) (tVar i) (tC (.int (k : Int))) _ _ _
        obtain ⟨es, g1, g2⟩ := gx c xs[c] (List.getElem?_eq_getElem hlt)
        have rx : RV X.K φ χ H (.tup es) x := get_rv rk g1 (by rw [List.getElem?_map, ex]; rfl)
        cases rx with
        | @tup p us _ t r =>
          obtain ⟨w, w1, w2⟩ := r.get g2
          refine ⟨.ref p, by rw [List.getElem?_set_self (by rw [wipe_length, ← rs.len]; exact nij)], .inr (.inl ⟨p, us, (k : Int), w, rfl, rfl, ?_, ?_, vs, dl vs, by omega, w, w2, by rw [upd_upd]⟩)⟩
          · have t' : Tp X.K (upd (upd H a (.frz od (.dK ws))) Da (.lst vs)) p us := by
              rcases t with t | t
              · refine .inl ?_
                rw [upd_ne (fun z => by rw [z, hD0] at t; cases t), upd_ne (fun z => by rw [z, ha] at t; cases t)]
                exact t
              · exact .inr t
            exact t'.sq
          · have lt := (List.getElem?_eq_some_iff.mp w1).1
            unfold atI
            rw [show ixN us.length (k : Int) = some k by unfold ixN; rw [if_pos (by omega), if_pos (by omega)]; simp]
            exact w1
    · have ce : c = xs.length := by omega
      refine .inl ⟨⟨xL vs, by omega⟩, xL vs, ?_⟩
      rw [updH_swap (Ne.symm nDa), updH_self ha]
      rw [ce, List.take_length] at rvs
      exact Out.new (H0 := H) hr rvs hD0 hD0 oo
/-! {m: n, ..}[a] -/
def dispT (ps : List (Int × Int)) : List (TE × TE) := ps.map fun p => (tC (.int p.1), tC (.int p.2))
def kvsP (ps : List (Int × Int)) : List (L2.Key × V) := ps.map fun p => (.inl p.1, .int p.2)
theorem dispT_run {σ : L2.St} : ∀ {ps : List (Int × Int)} {H : Hp} {Q : List (V × V) → Hp → Prop}, Q (ps.map fun p => (.int p.1, .int p.2)) H → tPairs (dispT ps) σ H Q
  | [], _, _, q => q
  | p :: ps, H, Q, q => dispT_run (ps := ps) (Q := fun r H3 => Q ((.int p.1, .int p.2) :: r) H3) q
theorem merge_rv : ∀ {ps : List (Int × Int)} {kvs : List (Ky × D)} {ws : List (L2.Key × V)}, ws.map (·.1) = kvs.map (·.1) → RVs K φ χ H (kvs.map (·.2)) (ws.map (·.2)) →
    (mergeK ws (kvsP ps)).map (·.1) = (ps.foldl (fun acc p => putD acc (.inl p.1) (.int p.2)) kvs).map (·.1) ∧ RVs K φ χ H ((ps.foldl (fun acc p => putD acc (.inl p.1) (.int p.2)) kvs).map (·.2)) ((mergeK ws (kvsP ps)).map (·.2))
  | [], kvs, ws, e, r => ⟨e, r⟩
  | p :: ps, kvs, ws, e, r => by
    obtain ⟨h1, h2⟩ := put_rv (k := .inl p.1) (.int p.2) e r
    exact merge_rv (ps := ps) h1 h2
/-- a display of ints -/
def intC (i : Int) : Expr → Bool
  | .Constant (.int j) _ _ => decide (i = j)
  | _ => false
def dispC : List (Int × Int) → List (Option Expr) → List Expr → Bool
  | [], [], [] => true
  | p :: ps, some k :: ks, v :: vs => intC p.1 k && (intC p.2 v && dispC ps ks vs)
  | _, _, _ => false
theorem intC_ok {i : Int} {e : Expr} (h : intC i e = true) : PE X e (tC (.int i)) := by
  unfold intC at h
  split at h
  · rw [of_decide_eq_true h]; exact pe_int
  · cases h
theorem dispC_ok {pos : Pos} : ∀ {ps : List (Int × Int)} {ks : List (Option Expr)} {vs : List Expr}, dispC ps ks vs = true → PPs X pos ks vs (dispT ps) ∧ ks.all (·.isSome) = true ∧ ks.length = vs.length ∧ ks.length = ps.length
  | [], [], [], _ => ⟨pps_nil, rfl, rfl, rfl⟩
  | p :: ps, some k :: ks, v :: vs, h => by
    obtain ⟨h1, h2⟩ := and_true (show (intC p.1 k && (intC p.2 v && dispC ps ks vs)) = true from h)
    obtain ⟨h2, h3⟩ := and_true h2
    obtain ⟨q1, q2, q3, q4⟩ := dispC_ok (pos := pos) h3
    exact ⟨pps_cons (intC_ok h1) (intC_ok h2) q1, by simpa using q2, by simp [q3], by simp [q4]⟩
  | [], some _ :: _, _, h => nomatch h
  | [], none :: _, _, h => nomatch h
  | [], [], _ :: _, h => nomatch h
  | _ :: _, [], _, h => nomatch h
  | _ :: _, none :: _, _, h => nomatch h
  | _ :: _, some _ :: _, [], h => nomatch h
theorem m_pick {ps : List (Int × Int)} {ks : List (Option Expr)} {vs : List Expr} {a : Expr} {ea : E} {dpos pos : Pos} (hu : X.A.units + 1 < cLine) (hs : NoSl a) (hd : dispC ps ks vs = true) (hn : ps ≠ []) (hl : ps.length ≤ 15) (ha : PE X a (tM X W l ea)) :
    PE X (.Subscript (.Dict ks vs dpos) a pos) (tM X W l (.pick ps ea)) := by
  obtain ⟨q1, q2, q3, q4⟩ := dispC_ok (X := X) (pos := dpos) hd
  have k0 : ks ≠ [] := fun e => by rw [e] at q4; exact hn (List.length_eq_zero_iff.mp q4.symm)
  refine peImp (pe_dget hu (pe_disp q1 q2 q3 k0 (by omega)) ha hs) fun τ H Q ⟨φ, χ, σ, h, rs, hr, o⟩ p hp => ?_
  unfold evE at o
  refine dispT_run ⟨upd_same, kvsP ps, by unfold kvsP; rw [List.map_map]; rfl, by unfold kvsP; rw [List.length_map]; exact hl, ?_⟩
  have np : p ∉ φ := fun q => hr.ch p (hr.sub p q) hp
  have nc : ¬ χ p := fun q => hr.ch p q hp
  rw [upd_upd]
  have x : Ext φ χ H φ χ (upd H p (.dK (mergeK [] (kvsP ps)))) := by
    refine ⟨⟨⟨[], by simp⟩, fun _ q => q, fun _ q n => absurd q n, fun a o _ ho => ?_, fun a xs ho => ?_, fun a o xs ho => ?_⟩, fun a o _ ho => ?_, fun a q n => absurd q n⟩ <;> (rw [upd_ne (ne_of_none ho hp)]; exact ho)
  have hr' : HR X.K X.mg φ χ (upd H p (.dK (mergeK [] (kvsP ps)))) l h := hr.ext x (fun a ha => upd_ne (by obtain ⟨u, e⟩ := hr.heap ha; exact ne_of_none e hp)) fun a q => by
    rw [upd_ne (fun z => by subst z; exact nc q)]; exact hr.ch a q
  refine tM.to (rs.ext x) hr' ((Out.later x o.bind).mono fun φ1 χ1 H1 d1 h1 _ x1 _ g1 _ hr1 v1 rv1 => ?_)
  have hp1 : H1 p = some (.dK (mergeK [] (kvsP ps))) := x1.kp p _ np upd_same
  unfold pickV at g1
  split at g1
  · rename_i ii
    split at g1
    · rename_i d e
      split at g1
      · cases rv1
        obtain ⟨m1, m2⟩ := merge_rv (K := X.K) (φ := φ1) (χ := χ1) (H := H1) (ps := ps) (kvs := []) (ws := []) rfl .nil
        obtain ⟨v, ev, rv⟩ := look_rv m1 m2 e
        exact ⟨p, v, rfl, by rw [← ev]; exact DGet.k (k := .inl _) hp1, Out.same0 (H0 := H) hr1 rv g1⟩
      · exact g1.elim
    · exact g1.elim
  · exact g1.elim
end
end Mp

set_option maxRecDepth 100000
set_option maxHeartbeats 1000000
/-! Mp2i: caught refusals: isinstance, fields. -/
namespace Mp
open PySem PySem.Spec PyProof.Rows L2

/-! ### what follows of ExAt -/
theorem ofStr_inj {a b : String} (h : Str.ofString a = Str.ofString b) : a = b := by
  rw [Str.ofString_eq_toList, Str.ofString_eq_toList] at h
  have h2 : a.toList.map Char.toNat = b.toList.map Char.toNat := by
    have := congrArg Str.cps h
    simpa using this
  have inj : ∀ x y : Char, x.toNat = y.toNat → x = y := fun x y e => Char.ext (UInt32.toNat.inj e)
  have h3 : ∀ (xs ys : List Char), xs.map Char.toNat = ys.map Char.toNat → xs = ys := by
    intro xs
    induction xs with
    | nil => intro ys e; cases ys with
      | nil => rfl
      | cons _ _ => simp at e
    | cons x xs ih => intro ys e; cases ys with
      | nil => simp at e
      | cons y ys =>
        simp only [List.map_cons, List.cons.injEq] at e
        rw [inj x y e.1, ih ys e.2]
  exact String.toList_inj.mp (h3 _ _ h2)
section
variable {K : PySem.W.Frag} {c c' : String} {C C' : Addr}
theorem ExAt.clsIn (x : ExAt K c C) : ∃ cd, PySem.W.clsIn K C = some cd ∧ cd.name = Str.ofString c ∧ cd.hasDict = true ∧ ((c = "PaceError" ∧ cd.mro = .ref C :: PySem.HandSPX.veTail) ∨ (c ≠ "PaceError" ∧ ∃ CP, PaceAt K CP ∧ cd.mro = .ref C :: .ref CP :: PySem.HandSPX.veTail)) := by
  obtain ⟨q, N, bs, bm, sn, sub, ab, col, dd, k0, k1, k2, k3, k5, h, hb⟩ := x.lk
  refine ⟨_, by unfold PySem.W.clsIn; rw [h], rfl, rfl, ?_⟩
  rcases hb with ⟨h1, h2⟩ | ⟨h1, CP, h2, h3⟩
  · exact .inl ⟨h1, by rw [h2]⟩
  · exact .inr ⟨h1, CP, h2, by rw [h3]⟩
theorem ExAt.mro (x : ExAt K c C) (b : Value) : PySem.W.subIn K (.ref C) b = some true ∨ PySem.W.subIn K (.ref C) b = some false := by
  obtain ⟨cd, h, _, _, hm⟩ := x.clsIn
  have ne : cd.mro.isEmpty = false := by rcases hm with ⟨_, q⟩ | ⟨_, _, _, q⟩ <;> rw [q] <;> rfl
  show PySem.W.mroIn K C b = _ ∨ PySem.W.mroIn K C b = _
  unfold PySem.W.mroIn
  rw [h, Option.bind_some, ne]
  cases cd.mro.contains b <;> simp
theorem ExAt.sub (x : ExAt K c C) (n : c ≠ "PaceError") (b : Value) : ∃ CP, PaceAt K CP ∧ PySem.W.subIn K (.ref C) b = some ((Value.ref C :: .ref CP :: PySem.HandSPX.veTail).contains b) := by
  obtain ⟨cd, h, _, _, hm⟩ := x.clsIn
  rcases hm with ⟨q, _⟩ | ⟨_, CP, q1, q⟩
  · exact absurd q n
  · refine ⟨CP, q1, ?_⟩
    show PySem.W.mroIn K C b = _
    unfold PySem.W.mroIn
    rw [h, Option.bind_some, q]
    rfl
theorem ExAt.subT (x : ExAt K c C) (T : String) : PySem.W.subIn K (.ref C) (.type T) = some (above.contains T && T != "PaceError" || T == "object") := by
  obtain ⟨cd, h, _, _, hm⟩ := x.clsIn
  have key : ∀ l : List Value, (l = PySem.HandSPX.veTail ∨ ∃ CP, l = .ref CP :: PySem.HandSPX.veTail) → (Value.ref C :: l).contains (.type T) = (above.contains T && T != "PaceError" || T == "object") := by
    intro l hl
    have e1 : PySem.HandSPX.veTail.contains (.type T) = (above.contains T && T != "PaceError" || T == "object") := by
      have e : ∀ S : String, (Value.type T == Value.type S) = (T == S) := fun S => by
        by_cases q : T = S
        · subst q; simp
        · have : Value.type T ≠ Value.type S := fun z => q (by injection z)
          rw [beq_eq_false_iff_ne.mpr q, beq_eq_false_iff_ne.mpr this]
      unfold PySem.HandSPX.veTail above
      simp only [List.contains_cons, List.contains_nil, e, Bool.or_false]
      by_cases q : T = "PaceError"
      · subst q; decide
      · have e2 : (T == "PaceError") = false := beq_eq_false_iff_ne.mpr q
        have e3 : (T != "PaceError") = true := by simp [q]
        rw [e2, e3]
        cases (T == "ValueError") <;> cases (T == "Exception") <;> cases (T == "BaseException") <;> cases (T == "object") <;> rfl
    have n1 : (Value.type T == Value.ref C) = false := beq_eq_false_iff_ne.mpr (fun z => by cases z)
    rcases hl with rfl | ⟨CP, rfl⟩
    · rw [List.contains_cons, n1, Bool.false_or, e1]
    · have n2 : (Value.type T == Value.ref CP) = false := beq_eq_false_iff_ne.mpr (fun z => by cases z)
      rw [List.contains_cons, n1, Bool.false_or, List.contains_cons, n2, Bool.false_or, e1]
  show PySem.W.mroIn K C _ = _
  unfold PySem.W.mroIn
  rw [h, Option.bind_some]
  rcases hm with ⟨_, q⟩ | ⟨_, CP, _, q⟩
  · rw [q, ← key _ (.inl rfl)]; rfl
  · rw [q, ← key _ (.inr ⟨CP, rfl⟩)]; rfl
theorem ExAt.base (x : ExAt K c C) : PySem.W.subIn K (.ref C) (.type "BaseException") = some true := by rw [x.subT]; rfl
theorem ExAt.hd (x : ExAt K c C) : PySem.W.hasDictIn K C = true := by
  obtain ⟨cd, h, _, hd, _⟩ := x.clsIn
  unfold PySem.W.hasDictIn
  rw [h]
  exact hd
theorem ExAt.ty (x : ExAt K c C) : PySem.W.typeIn K (.ref C) = some (.type "type") := by
  obtain ⟨q, N, bs, bm, sn, sub, ab, col, dd, k0, k1, k2, k3, k5, h, hb⟩ := x.lk
  show (K.lookup C).map (·.cls) = _
  rw [h]; rfl
theorem ClsAt.eq (x : ClsAt K c C) (y : ClsAt K c C') : C = C' := by
  unfold ClsAt at x y
  rw [x] at y
  cases y; rfl
theorem ExAt.ne (x : ExAt K c C) (y : ExAt K c' C') (n : c ≠ c') : C ≠ C' := by
  rintro rfl
  obtain ⟨cd, h, q, _⟩ := x.clsIn
  obtain ⟨cd', h', q', _⟩ := y.clsIn
  rw [h] at h'
  cases h'
  exact n (ofStr_inj (q.symm.trans q'))
theorem ExAt.subC (x : ExAt K c C) (n : c ≠ "PaceError") (y : ExAt K c' C') : PySem.W.subIn K (.ref C) (.ref C') = some (excSub c c') := by
  obtain ⟨CP, q, e⟩ := x.sub n (.ref C')
  rw [e]
  congr 1
  have e1 : (PySem.HandSPX.veTail).contains (.ref C') = false := by
    unfold PySem.HandSPX.veTail
    simp
  rw [List.contains_cons, List.contains_cons, e1, Bool.or_false]
  have r : ∀ D : Addr, (Value.ref C' == Value.ref D) = decide (C' = D) := fun D => by
    by_cases z : C' = D
    · subst z; simp
    · have : Value.ref C' ≠ Value.ref D := fun w => z (Value.ref.inj w)
      simp [this, z]
  rw [r, r]
  unfold excSub
  by_cases z : c = c'
  · subst z
    have := x.at_.eq y.at_
    subst this
    simp
  · have n1 : C ≠ C' := x.ne y z
    have e3 : (c == c') = false := by simpa using z
    rw [e3, decide_eq_false (Ne.symm n1), Bool.false_or, Bool.false_or]
    by_cases z2 : c' = "PaceError"
    · subst z2
      have := q.1.eq y.at_
      subst this
      simp [above]
    · have n2 : C' ≠ CP := by
        rintro rfl
        obtain ⟨cd, h', q', _⟩ := y.clsIn
        obtain ⟨_, cd2, h2, q2⟩ := q
        rw [h'] at h2
        cases h2
        exact z2 (ofStr_inj (q'.symm.trans q2))
      rw [decide_eq_false n2]
      have nb := y.nb
      have e4 : (c' != "PaceError") = true := by simp [z2]
      rw [e4, Bool.and_true] at nb
      rw [nb]
/-- an except clause's class -/
theorem ExAt.exm (x : ExAt K c C) (n : c ≠ "PaceError") (y : ExAt K c' C') : PySem.W.exmOne K (.ref C) (.ref C') = some (excSub c c') := PySem.W.exm_ref y.base y.hd y.ty (x.subC n y)
theorem ExAt.kit (x : ExAt K c C) (n : c ≠ "PaceError") (y : ExAt K c' C') : PySem.W.kitOne K (.ref C) (.ref C') = some (excSub c c') := by
  unfold PySem.W.kitOne
  split
  · rename_i e
    have e : C = C' := Value.ref.inj (beq_iff_eq.mp e)
    subst e
    by_cases z : c = c'
    · subst z; simp [excSub]
    · exact absurd rfl (x.ne y z)
  · obtain ⟨cd, h, _⟩ := y.clsIn
    unfold PySem.W.kitCls
    simp only
    rw [h, y.ty, if_pos (by simp), x.subC n y]
theorem ExAt.kitT (x : ExAt K c C) (T : String) (hT : T ∈ ["ValueError", "Exception", "BaseException"]) : PySem.W.kitOne K (.ref C) (.type T) = some (excSub c T) := by
  unfold PySem.W.kitOne
  rw [if_neg (by simp)]
  unfold PySem.W.kitCls
  have key : ∀ T ∈ ["ValueError", "Exception", "BaseException"], PySem.W.kitMeta T = true ∧ (above.contains T && T != "PaceError" || T == "object") = true ∧ above.contains T = true := by decide +kernel
  obtain ⟨h1, h2, h3⟩ := key T hT
  simp only [h1, if_true]
  rw [x.subT, h2]
  unfold excSub
  rw [h3, Bool.or_true]
end
/-- a class's name: what it is, and what isinstance says of refusals by it -/
structure OwnC (X : Cx) (c' : String) : Prop where
  ex : ∃ v u, ClsV v u ∧ (∀ p, PE X (.Name (Str.ofString c') p) (tC v)) ∧ ∀ c C, ExAt X.K c C → c ≠ "PaceError" → PySem.W.kitOne X.K (.ref C) u = some (excSub c c')
theorem ownC_cls {X : Cx} {c' : String} {C' : Addr} (y : ExAt X.K c' C') (hg : Gl X (Str.ofString c')) (hm : X.mg (Str.ofString c') = some (.ref C')) (hd : (Str.ofString c' == ("__debug__" : Str)) = false) : OwnC X c' :=
  ⟨⟨.ref C', .ref C', .own C', fun p => pe_glob hg hm rfl hd, fun c C x n => x.kit n y⟩⟩
theorem ownC_val {X : Cx} (hg : Gl X "ValueError") (hm : X.mg "ValueError" = none) : OwnC X "ValueError" :=
  ⟨⟨.ty "ValueError", .type "ValueError", .ty _, fun p => pe_bltn hg hm (by decide +kernel) rfl (by decide +kernel) (by decide +kernel), fun c C x n => x.kitT "ValueError" (by simp)⟩⟩

/-! ### isinstance -/
end Mp
namespace Mp
open PySem PySem.Spec PySem.W PySem.Calls PyProof.Rows
section
variable {prog : Program} {w : World} {A : Around} {E : Value → Shared → Prop} {s : Shared} {K : Frag} {x D : Addr} {ox : Obj} {od : Option Obj}
theorem find_data {name : Str} {a g : Value} (hc : (clsIn K D).isSome = true) (ha : findIn K (.ref D) name = some (some a)) (hg : specialIn K a "__get__" = some (some g)) (ht : takesIn K a = some true) : findObj K D od name = some (.bind g a) := by
  obtain ⟨cd, hc⟩ := Option.isSome_iff_exists.mp hc
  unfold findObj
  rw [hc, Option.bind_some, ha, Option.bind_some]
  simp [hg, ht]
/-- x.__class__ of a refusal, with or without a dict -/
theorem own_class {Q : Option Value → Shared → Prop} {c : String} (T : ExAt K c D) (X : K.In s.heap) (I : InstAt s.heap x ox D od) (h : Q (some (.ref D)) { s with toks := s.toks + 1 }) : wpAny (model prog w) A (getAttr? (.ref x) "__class__") Q E s := by
  have hm : mroIn K D (.type "object") = some true := by have := T.subT "object"; exact this
  have hf : findObj K D od "__class__" = some (.bind (.builtin "getset_descriptor.__get__") (.builtin "object.__class__")) := find_data (by obtain ⟨cd, hc, _⟩ := T.clsIn; rw [hc]; rfl) T.ha T.hn T.ht
  obtain ⟨hp, g, d, t, os⟩ := s
  have L0 := I.type (M := model prog w)
  have L1 := looks_findIn (M := model prog w) X T.ga
  have L2 := looks_findIn (M := model prog w) X T.gg
  have L3 := looks_find (M := model prog w) X I hf
  have isB : Looks (model prog w) hp (isInstance (.ref x) (.type "BaseException")) true := L0.andThen (looks_subIn X T.base)
  have no : (Value.builtin "BaseException.__getattribute__" == Value.builtin "object.__getattribute__") = false := by decide +kernel
  have no1 : (onTheHeap (Value.ref D) && Value.builtin "BaseException.__getattribute__" == Value.builtin "object.__getattribute__") = false := by rw [no]; rfl
  unfold getAttr? getAttrBy? getAttrBy
  refine wpAny_bind (wpAny_mkText (wpAny_bind (wpAny_attempt (wpAny_holding (wpAny_bind (L0.at (wpAny_bind (L1.at ?_))))))))
  show wpAny _ _ (if (onTheHeap (Value.ref D) && Value.builtin "BaseException.__getattribute__" == Value.builtin "object.__getattribute__") = true then _ else _) _ _ _
  rw [no1, if_neg Bool.false_ne_true]
  unfold getAttrByItsOwn hookBefore
  refine wpAny_bind ?_
  rw [if_pos (show onTheHeap (Value.ref D) = true from rfl)]
  refine L2.at ?_
  refine wpAny_bind (wpAny_attempt (wpAny_holding ?_))
  unfold callGetattribute
  rw [show (false && onTheHeap (Value.builtin "BaseException.__getattribute__")) = false from rfl, if_neg Bool.false_ne_true]
  unfold boundAndCalled
  rw [PySem.F.excAttr_ValueError.ga.bind (.ref x)]
  refine wpAny_bind (wpAny_pure ?_)
  show wpAny _ _ (call (.builtin "BaseException.__getattribute__") [.ref x, .str "__class__" t]) _ _ _
  refine wpAny_call (codeAny_call_builtin PySem.F.excAttr_ValueError.ga.plain PySem.F.entry_bexc_ga ?_)
  refine @check_slot (model prog w) _ _ ⟨hp, g, d, t + 1, os⟩ "BaseException.__getattribute__" "BaseException" "__getattribute__" (.ref x) [.str "__class__" t] [] _ (by decide +kernel) (by decide +kernel) isB (PySem.F.args_bexc_ga (.ref x) (.str "__class__" t)) ?_
  unfold Builtin.«object.__getattribute__»
  refine wpAny_bind (wpAny_of_eq (a := ((Value.ref x : Value), [Value.str "__class__" t])) (by first | rfl | (simp only [slotArgs]; rfl)) ?_)
  refine wpAny_bind (wpAny_pure (wpAny_bind (L0.at (wpAny_bind (L3.at ?_)))))
  show wpAny _ _ (holding [Value.builtin "object.__class__"] (call (.builtin "getset_descriptor.__get__") [.builtin "object.__class__", .ref x, .ref D]) >>= ret) _ _ _
  refine wpAny_bind (wpAny_holding (wpAny_call (class_get (s := ⟨hp, g, d, t + 1, os⟩) (ox := ox) (od := od) X I hm ?_)))
  refine wpAny_pure ?_
  show wpAny _ _ (handedOut (.ref D)) _ _ _
  rw [handedOut_of (v := .ref D) rfl]
  first
    | exact wpAny_pure (wpAny_pure h)
    | exact wpAny_pure h
    | exact wpAny_pure (wpAny_bind (wpAny_pure (wpAny_pure h)))
theorem kitx_own_exc {c : String} (T : ExAt K c D) : KitX K (.ref x) (.ref D) (fun h => InstAt h x ox D od) where
  ty := fun _ _ _ I => I.type
  it := fun _ _ X _ => by
    obtain ⟨q, N, bs, bm, sn, sub, ab, col, dd, k0, k1, k2, k3, k5, ho, _⟩ := T.lk
    intro A' Q' E' s' k q
    unfold isType loadHead
    exact wpAny_bind (wpAny_loadPart (k _ _ (X _ _ ho)) (wpAny_pure q))
  ne := fun h tp dd its n sl X htp => by
    obtain ⟨q, N, bs, bm, sn, sub, ab, col, dd, k0, k1, k2, k3, k5, ho, _⟩ := T.lk
    refine Bool.eq_false_iff.mpr fun q => ?_
    have e : D = tp := Value.ref.inj (beq_iff_eq.mp q)
    subst e
    have z := congrArg Obj.data (Option.some.inj ((X _ _ ho).symm.trans htp))
    cases z
  ca := fun X I k => own_class T X I k
end
end Mp
namespace Mp
open PySem PySem.Spec PyProof.Rows L2
section
variable {X : Cx} {W : WX} {l : List Nat} {τ : L2.St} {φ φ' φ1 : List Addr} {χ χ' χ1 : Ads} {H H' H1 H0 : Hp} {h h' : Hh} {K : PySem.W.Frag} {c : String} {C a : Addr} {d : Option Addr}
/-- a caught refusal, as it is tracked: at a, of the class at C -/
structure ExH (K : PySem.W.Frag) (H : Hp) (a : Addr) (c : String) (C : Addr) (d : Option Addr) : Prop where
  t : ExAt K c C
  n : c ≠ "PaceError"
  e : H a = some (exk a C d)
  dd : d = none ∨ ∃ (b : Addr) (fs : List (Str × V)), d = some b ∧ H b = some (.xd fs)
theorem RV.exh {fs : List Mp.D} {v : V} (r : RV K φ χ H (.exc c fs) v) : ∃ a C d, v = .ref a ∧ ExH K H a c C d := by
  cases r with
  | exc0 t n nc e => exact ⟨_, _, none, rfl, t, n, e, .inl rfl⟩
  | exc t n nc e n2 e2 l r => exact ⟨_, _, some _, rfl, t, n, e, .inr ⟨_, _, rfl, e2⟩⟩
theorem ExH.inst {P : Program} {w : World} {s : Shared} (x : ExH K H a c C d) (hok : HOk P w H s.heap) : ∃ ox od, PySem.W.InstAt s.heap a ox C od ∧ (∀ b, d = some b → ∃ o, od = some o ∧ s.heap.get? b = some o) := by
  have q : ObjOk P w H s.heap a (.ext fun h => ∃ (o : Obj) (vs : Array Value), h.get? a = some o ∧ o.cls = .ref C ∧ o.dict = d ∧ o.data = .fields vs) := hok a _ x.e
  obtain ⟨⟨o, vs, h1, h2, h3, h4⟩, _⟩ := q
  have no : PySem.W.notCls o = true := by unfold PySem.W.notCls; rw [h4] <;> rfl
  rcases x.dd with rfl | ⟨b, fs, rfl, e⟩
  · exact ⟨o, none, ⟨h1, h2, no, by rw [h3]; trivial⟩, fun b z => by cases z⟩
  · have q : ObjOk P w H s.heap b (.xd fs) := hok b _ e
    obtain ⟨mA, ⟨od, es, ep, ho, _⟩, _⟩ := q
    exact ⟨o, some od, ⟨h1, h2, no, by rw [h3]; exact ho⟩, fun b z => by cases z; exact ⟨od, rfl, ho⟩⟩
def rIsX (K : PySem.W.Frag) : List V → Hp → VK → Prop := fun xs H Q => ∃ (a C : Addr) (c : String) (d : Option Addr) (v : V) (u : Value) (b : Bool), xs = [.ref a, v] ∧ ClsV v u ∧ ExH K H a c C d ∧ PySem.W.kitOne K (.ref C) u = some b ∧ Q (.bl b) H
def rIsXT (K : PySem.W.Frag) : List V → Hp → VK → Prop := fun xs H Q => ∃ (a C tp : Addr) (c : String) (d : Option Addr) (cs : List V) (us : List Value) (b : Bool), xs = [.ref a, .ref tp] ∧ H tp = some (.tup cs) ∧ Paired ClsV cs us ∧ ExH K H a c C d ∧ PySem.W.kitAny K (.ref C) us = some b ∧ Q (.bl b) H
theorem call_isx : CallR X (.builtin "isinstance") (rIsX X.K) := by
  intro pins s σ H xs us Q I r h
  obtain ⟨a, C, c, d, v, u, b, rfl, k, x, e, q⟩ := h
  obtain ⟨u1, u2, rfl, r1, r2⟩ := vals2 r
  have e2 := k.eq r2
  subst e2
  cases (show u1 = Value.ref a from r1)
  obtain ⟨ox, od, J, _⟩ := x.inst I.hok
  exact PySem.W.kia_one (kitx_own_exc x.t) I.kIn J e (fun z => nomatch z) fun tk => ⟨.bl b, H, I.tok tk, rfl, q⟩
theorem call_isxT : CallR X (.builtin "isinstance") (rIsXT X.K) := by
  intro pins s σ H xs us Q I r h
  obtain ⟨a, C, tp, c, d, cs, ws, b, rfl, hT, k, x, e, q⟩ := h
  obtain ⟨u1, u2, rfl, r1, r2⟩ := vals2 r
  cases (show u1 = Value.ref a from r1)
  cases (show u2 = Value.ref tp from r2)
  obtain ⟨ox, od, J, _⟩ := x.inst I.hok
  obtain ⟨_, its, rv, o, h1, h2, n, h3⟩ := (show ObjOk X.prog X.w H s.heap tp (.tup cs) from I.hok tp _ hT)
  have e3 := ClsV.all k rv
  subst e3
  obtain ⟨oc, od', dt, sl⟩ := o
  simp only at h2 h3
  subst h2 h3
  exact PySem.W.kia_tup (kitx_own_exc x.t) I.kIn J h1 e (fun z => nomatch z) fun tk => ⟨.bl b, H, I.tok tk, rfl, q⟩
def oTy : Ty → Bool
  | .own _ => true
  | _ => false
theorem isTy_o {d : Mp.D} {t : Ty} {b : Bool} (ht : oTy t = true) (e : isTy h d t = some b) : ∃ c fs, d = .exc c fs ∧ b = excSub c (tyName t) := by
  cases t <;> first | (cases ht; done) | skip
  unfold isTy at e
  cases d <;> first | (cases e; done) | (cases e; exact ⟨_, _, rfl, rfl⟩)
theorem m_isinX {a : Expr} {ea : E} {t : Ty} {p p2 pos : Pos} (ht : oTy t = true) (hg : Gl X "isinstance") (hm : X.mg "isinstance" = none) (hc : OwnC X (tyName t))
    (ha : PE X a (tM X W l ea)) (hst : starEach [a, .Name (Str.ofString (tyName t)) p2] X.env = (false, eval a X.env) :: starEach [.Name (Str.ofString (tyName t)) p2] X.env) :
    PE X (.Call (.Name "isinstance" p) [a, .Name (Str.ofString (tyName t)) p2] [] pos) (tM X W l (.isin ea [t])) := by
  obtain ⟨v, u, k, pe, kt⟩ := hc.ex
  refine peImp (pe_callB call_isx hg hm (by decide +kernel) (pa_cons ha (pa_cons (pe p2) pa_nil) hst) (by decide) (by decide) hst) fun τ H Q ⟨φ, χ, σ, h, rs, hr, o⟩ => ?_
  unfold evE at o
  refine tM.to rs hr (o.bind.mono fun φ1 χ1 H1 d1 h1 _ x1 _ g1 _ hr1 v1 rv1 => ?_)
  unfold isinV isAny isAny at g1
  cases e : isTy h1 d1 t with
  | none => rw [e] at g1; exact g1.elim
  | some b =>
    obtain ⟨c, fs, rfl, rfl⟩ := isTy_o ht e
    obtain ⟨a', C, d, rfl, xh⟩ := rv1.exh
    have q : Q (.bl (excSub c (tyName t))) H1 := by
      rw [e] at g1
      cases z : excSub c (tyName t) <;> rw [z] at g1 <;> exact Out.same0 (H0 := H) hr1 (.bl _) g1
    exact ⟨a', C, c, d, v, u, _, rfl, k, xh, kt c C xh.t xh.n, q⟩
/-- a tuple of own classes -/
def tCs : List V → TA
  | [] => tNil
  | v :: vs => tCons (tC v) (tCs vs)
theorem tCs_run : ∀ (vs : List V) {τ : L2.St} {H : Hp} {Q : List V → Hp → Prop}, Q vs H → tCs vs τ H Q
  | [], _, _, _, q => q
  | v :: vs, _, H, Q, q => tCs_run vs (Q := fun xs H2 => Q (v :: xs) H2) q
theorem kitAny_own {C : Addr} {c : String} : ∀ {ts : List Ty} {us : List Value}, us.length = ts.length → (∀ (i : Nat) (t : Ty) (u : Value), ts[i]? = some t → us[i]? = some u → PySem.W.kitOne K (.ref C) u = some (excSub c (tyName t))) → PySem.W.kitAny K (.ref C) us = some (ts.any fun t => excSub c (tyName t))
  | [], [], _, _ => rfl
  | t :: ts, u :: us, e, k => by
    have h1 := k 0 t u rfl rfl
    have h2 := kitAny_own (ts := ts) (us := us) (by simpa using e) fun i t u q1 q2 => k (i + 1) t u (by simpa using q1) (by simpa using q2)
    rw [List.any_cons]
    cases z : excSub c (tyName t) with
    | true => rw [z] at h1; exact kitAny_cons h1 (fun q => by cases q) fun _ => rfl
    | false => rw [z] at h1; exact kitAny_cons h1 (fun _ => h2) fun q => by cases q
  | [], _ :: _, e, _ => by simp at e
  | _ :: _, [], e, _ => by simp at e
theorem isAny_own {c : String} {fs : List Mp.D} : ∀ {ts : List Ty}, (∀ t ∈ ts, oTy t = true) → isAny h (.exc c fs) ts = some (ts.any fun t => excSub c (tyName t))
  | [], _ => rfl
  | t :: ts, ho => by
    have h1 : isTy h (.exc c fs) t = some (excSub c (tyName t)) := by
      have := ho t (by simp)
      cases t <;> first | (cases this; done) | rfl
    unfold isAny
    rw [h1, List.any_cons]
    cases z : excSub c (tyName t) with
    | true => rfl
    | false => simpa using isAny_own (ts := ts) fun t ht => ho t (by simp [ht])
theorem isAny_exc {d : Mp.D} {ts : List Ty} {b : Bool} (hn : ts ≠ []) (ho : ∀ t ∈ ts, oTy t = true) (e : isAny h d ts = some b) : ∃ c fs, d = .exc c fs := by
  cases ts with
  | nil => exact absurd rfl hn
  | cons t ts =>
    unfold isAny at e
    cases z : isTy h d t with
    | none => rw [z] at e; cases e
    | some k =>
      obtain ⟨c, fs, rfl, _⟩ := isTy_o (ho t (by simp)) z
      exact ⟨c, fs, rfl⟩
/-- the class values -/
inductive OwnVs (X : Cx) : List Ty → List V → List Value → Prop
  | nil : OwnVs X [] [] []
  | cons {t : Ty} {v : V} {u : Value} {ts : List Ty} {vs : List V} {us : List Value} : ClsV v u → (∀ p, PE X (.Name (Str.ofString (tyName t)) p) (tC v)) → (∀ c C, ExAt X.K c C → c ≠ "PaceError" → PySem.W.kitOne X.K (.ref C) u = some (excSub c (tyName t))) → OwnVs X ts vs us → OwnVs X (t :: ts) (v :: vs) (u :: us)
theorem ownVs : ∀ {ts : List Ty}, (∀ t ∈ ts, OwnC X (tyName t)) → ∃ vs us, OwnVs X ts vs us
  | [], _ => ⟨[], [], .nil⟩
  | t :: ts, k => by
    obtain ⟨v, u, a, b, c⟩ := (k t (by simp)).ex
    obtain ⟨vs, us, r⟩ := ownVs (ts := ts) fun t h => k t (by simp [h])
    exact ⟨v :: vs, u :: us, .cons a b c r⟩
theorem OwnVs.pa {ts : List Ty} {vs : List V} {us : List Value} (o : OwnVs X ts vs us) : ∀ {ps : List Pos}, ts.length = ps.length → PA X (clsL ts ps) (tCs vs) := by
  induction o with
  | nil => intro ps _; exact pa_nil
  | cons a b c r ih =>
    intro ps e
    cases ps with
    | nil => simp at e
    | cons p ps => exact pa_cons (b p) (ih (by simpa using e))
theorem OwnVs.paired {ts : List Ty} {vs : List V} {us : List Value} (o : OwnVs X ts vs us) : Paired ClsV vs us := by
  induction o with
  | nil => exact .nil
  | cons a b c r ih => exact .cons a ih
theorem OwnVs.len {ts : List Ty} {vs : List V} {us : List Value} (o : OwnVs X ts vs us) : us.length = ts.length ∧ vs.length = ts.length := by
  induction o with
  | nil => exact ⟨rfl, rfl⟩
  | cons a b c r ih => exact ⟨by simp [ih.1], by simp [ih.2]⟩
theorem OwnVs.kit {ts : List Ty} {vs : List V} {us : List Value} (o : OwnVs X ts vs us) {c : String} {C : Addr} (x : ExAt X.K c C) (n : c ≠ "PaceError") : ∀ (i : Nat) (t : Ty) (u : Value), ts[i]? = some t → us[i]? = some u → PySem.W.kitOne X.K (.ref C) u = some (excSub c (tyName t)) := by
  induction o with
  | nil => intro i t u e; simp at e
  | cons a b k r ih =>
    intro i t u e1 e2
    cases i with
    | zero => simp at e1 e2; subst e1 e2; exact k c C x n
    | succ i => exact ih i t u (by simpa using e1) (by simpa using e2)
theorem m_isinXT {a : Expr} {ea : E} {ts : List Ty} {ps : List Pos} {k : Nat} {p p2 pos : Pos} (hl : ts.length = ps.length) (hn : ts ≠ []) (ht : ∀ t ∈ ts, oTy t = true) (hg : Gl X "isinstance") (hm : X.mg "isinstance" = none)
    (hc : ∀ t ∈ ts, OwnC X (tyName t)) (ha : PE X a (tM X W l ea)) (hz : ts.length ≤ sizeLine)
    (hst : starEach [a, .Tuple (clsL ts ps) k p2] X.env = (false, eval a X.env) :: starEach [.Tuple (clsL ts ps) k p2] X.env) :
    PE X (.Call (.Name "isinstance" p) [a, .Tuple (clsL ts ps) k p2] [] pos) (tM X W l (.isin ea ts)) := by
  obtain ⟨vs, us, ov⟩ := ownVs hc
  refine peImp (pe_callB call_isxT hg hm (by decide +kernel) (pa_cons ha (pa_cons (pe_tup (ov.pa hl)) pa_nil) hst) (by decide) (by decide) hst) fun τ H Q ⟨φ, χ, σ, h, rs, hr, o⟩ => ?_
  unfold evE at o
  refine tM.to rs hr (o.bind.mono fun φ1 χ1 H1 d1 h1 _ x1 _ g1 _ hr1 v1 rv1 => ?_)
  refine tCs_run vs ⟨by rw [ov.len.2]; exact hz, fun q hq => ?_⟩
  unfold isinV at g1
  cases e : isAny h1 d1 ts with
  | none => rw [e] at g1; exact g1.elim
  | some b =>
    rw [e] at g1
    obtain ⟨c, fs, rfl⟩ := isAny_exc hn ht e
    rw [isAny_own ht] at e
    cases e
    have hr2 := hr1.newT (vs := vs) hq
    have x2 : Ext φ1 χ1 H1 φ1 χ1 (upd H1 q (.tup vs)) := .newT hq
    obtain ⟨a', C, d, rfl, xh⟩ := (rv1.ext x2).exh
    exact ⟨a', C, q, c, d, vs, us, _, rfl, upd_same, ov.paired, xh, kitAny_own ov.len.1 (ov.kit xh.t xh.n), Out.same0 (H0 := H) hr2 (.bl _) (Out.later x2 g1)⟩

/-! ### e.f -/
theorem lookup_rev {l : List (Str × V)} (nd : (l.map (·.1)).Nodup) (f : Str) : l.reverse.lookup f = l.lookup f := by
  induction l with
  | nil => rfl
  | cons p l ih =>
    obtain ⟨g, y⟩ := p
    have nd' := List.nodup_cons.mp (show (g :: l.map (·.1)).Nodup from nd)
    rw [List.reverse_cons, lookup_put]
    have app : ∀ (xs : List (Str × V)), (xs ++ [(g, y)]).lookup f = (xs.lookup f).or (if f = g then some y else none) := by
      intro xs
      induction xs with
      | nil => rw [List.nil_append, lookup_put]; rfl
      | cons q xs ih2 =>
        obtain ⟨g2, y2⟩ := q
        rw [List.cons_append, lookup_put, lookup_put, ih2]
        split <;> rfl
    rw [app, ih nd'.2]
    by_cases e : f = g
    · subst e
      rw [if_pos rfl, if_pos rfl]
      have : l.lookup f = none := by
        cases z : l.lookup f with
        | none => rfl
        | some v =>
          have key : ∀ (l : List (Str × V)) (v : V), l.lookup f = some v → f ∈ l.map (·.1) := by
            intro l
            induction l with
            | nil => intro v h; cases h
            | cons q l ih3 =>
              obtain ⟨g3, y3⟩ := q
              intro v h
              rw [lookup_put] at h
              by_cases e3 : f = g3
              · rw [e3]; exact List.mem_cons_self ..
              · rw [if_neg e3] at h; exact List.mem_cons_of_mem _ (ih3 v h)
          exact absurd (key l v z) nd'.1
      rw [this]; rfl
    · rw [if_neg e, if_neg e, Option.or_none]
theorem excF_nodup (c : String) : (excF c).Nodup := by
  unfold excF
  split <;> decide
theorem RVs.field {ds : List Mp.D} {vs : List V} : ∀ {ns : List String} {f : String} {d : Mp.D}, RVs K φ χ H ds vs → (ns.zip ds).lookup f = some d → ∃ v, ((ns.map Str.ofString).zip vs).lookup (Str.ofString f) = some v ∧ RV K φ χ H d v := by
  induction ds generalizing vs with
  | nil => intro ns f d r e; cases ns <;> simp at e
  | cons y ds ih =>
    intro ns f d r e
    cases r with
    | @cons _ v _ vs r rs =>
      cases ns with
      | nil => simp at e
      | cons n ns =>
        by_cases z : f = n
        · subst z
          simp [List.lookup] at e
          subst e
          exact ⟨v, by simp [List.lookup], r⟩
        · have z1 : (f == n) = false := by simpa using z
          have z2 : (Str.ofString f == Str.ofString n) = false := by
            rw [beq_eq_false_iff_ne]
            exact fun q => z (ofStr_inj q)
          simp only [List.zip_cons_cons, List.lookup, z1] at e
          obtain ⟨v', q1, q2⟩ := ih rs e
          exact ⟨v', by simp only [List.map_cons, List.zip_cons_cons, List.lookup, z2]; exact q1, q2⟩
theorem pe_xfld {e : Expr} {te : TE} {pos : Pos} {n : Str} (he : PE X e te) (hb : attributeBase e n X.env (eval e X.env) = eval e X.env) :
    PE X (.Attribute e n pos) (fun σ H Q => te σ H fun x H1 => ∃ a c C b fs v, x = .ref a ∧ ExH X.K H1 a c C (some b) ∧ PySem.W.findIn X.K (.ref C) n = some none ∧ H1 b = some (.xd fs) ∧ fs.lookup n = some v ∧ Q v H1) := by
  refine ⟨fun pins s σ H Q I h => ?_⟩
  refine attr_of hb (thn (he.run pins s σ H _ I h) fun u s1 hh => ?_)
  obtain ⟨x, H1, I1, rx, a, c, C, b, fs, v, rfl, xh, hno, ea, l, q⟩ := hh
  cases (show u = Value.ref a from rx)
  have hx : ObjOk X.prog X.w H1 s1.heap b (.xd fs) := I1.hok b _ ea
  obtain ⟨mA, hns, hr⟩ := hx
  obtain ⟨od, ho, hl⟩ := lookIn_ns hns
  obtain ⟨u, hu, ru⟩ := RelO.some_of (v := v) (o := mA n) (by rw [← l]; exact hr n)
  obtain ⟨ox, od', J, k⟩ := xh.inst I1.hok
  obtain ⟨od2, rfl, ho2⟩ := k b rfl
  rw [ho] at ho2
  cases ho2
  exact HandSPX.exc_get I1.kIn J xh.t.ga xh.t.gg xh.t.base (PySem.W.findObj_own xh.t.hd hno rfl (by rw [hl, hu])) (handed_of ru) ⟨v, H1, I1.tok _, ru, q⟩
theorem m_xfld {a : Expr} {ea : E} {f : String} {pos : Pos} (ha : PE X a (tM X W l ea)) (hb : attributeBase a (Str.ofString f) X.env (eval a X.env) = eval a X.env) : PE X (.Attribute a (Str.ofString f) pos) (tM X W l (.xfld ea f)) := by
  refine peImp (pe_xfld ha hb) fun τ H Q ⟨φ, χ, σ, h, rs, hr, o⟩ => ?_
  unfold evE at o
  refine tM.to rs hr (o.bind.mono fun φ1 χ1 H1 d1 h1 _ x1 _ g1 _ hr1 v1 rv1 => ?_)
  unfold xfldV at g1
  split at g1
  · rename_i c fs _
    split at g1
    · rename_i d e
      cases rv1 with
      | exc0 t n nc e' => rw [List.zip_nil_right] at e; cases e
      | @exc a' C dd _ _ vs t n nc e' n2 e2 lv r =>
        obtain ⟨v, q1, q2⟩ := r.field e
        have hm : f ∈ excF c := by
          have key : ∀ (l : List (String × Mp.D)), l.lookup f = some d → (f, d) ∈ l := by
            intro l
            induction l with
            | nil => intro h; cases h
            | cons p l ih =>
              obtain ⟨g, y⟩ := p
              intro h
              by_cases e3 : f = g
              · subst e3
                simp [List.lookup] at h
                subst h
                exact List.mem_cons_self ..
              · have e4 : (f == g) = false := by simpa using e3
                rw [List.lookup, e4] at h
                exact List.mem_cons_of_mem _ (ih h)
          exact (List.of_mem_zip (key _ e)).1
        have nd : ((((excF c).map Str.ofString).zip vs).map (·.1)).Nodup := by
          rw [List.map_fst_zip (by simp [lv])]
          exact List.pairwise_map.mpr ((excF_nodup c).imp fun h q => h (ofStr_inj q))
        exact ⟨a', c, C, dd, _, v, rfl, ⟨t, n, e', .inr ⟨_, _, rfl, e2⟩⟩, t.nf f hm, e2, by unfold xdl; rw [lookup_rev nd]; exact q1, Out.same0 (H0 := H) hr1 q2 g1⟩
    · exact g1.elim
  · exact g1.elim
end
end Mp

set_option maxRecDepth 100000
/-! Mp3a: statements without loops. -/
namespace Mp
open PySem PySem.Spec PyProof.Rows L2

section
variable {X : Cx} {W : WX} {l : List Nat} {τ : L2.St} {φ φ' φ1 : List Addr} {χ χ' χ1 : Ads} {H H' H1 H0 : Hp} {h h' : Hh} {α β : Type} {K : PySem.W.Frag} {mg : Str → Option Value} {D : Ends}

/-- what is wanted behind a statement -/
def Flw (X : Cx) (W : WX) (D : Ends) (φ : List Addr) (χ : Ads) (H : Hp) : Fl → Prop
  | .nx σ => ∀ τ, RS X.K φ χ H σ τ → D.nx τ H
  | .rt d => ∀ v, RV X.K φ χ H d v → D.rt v H
  | .xc c fs σ => ∀ τ cls dd, RS X.K φ χ H σ τ → XV X.K X.mg φ χ H c fs cls dd → W cls dd τ H
def OutS (X : Cx) (W : WX) (l : List Nat) (φ : List Addr) (χ : Ads) (H : Hp) (r : R Fl) (D : Ends) : Prop := match r with
  | .ok fl h' => ∀ φ' χ' H', Ext φ χ H φ' χ' H' → HR X.K X.mg φ' χ' H' l h' → Flw X W D φ' χ' H' fl
  | _ => False
theorem OutS.later {r : R Fl} (x : Ext φ χ H φ1 χ1 H1) (o : OutS X W l φ χ H r D) : OutS X W l φ1 χ1 H1 r D := by
  cases r with
  | ok fl h' => exact fun φ2 χ2 H2 x2 hr2 => o φ2 χ2 H2 (x.trans x2) hr2
  | _ => exact o
theorem OutS.nx {σ : Sg} (o : OutS X W l φ χ H (.ok (.nx σ) h) D) (hr : HR X.K X.mg φ χ H l h) (rs : RS X.K φ χ H σ τ) : D.nx τ H := o _ _ _ .refl hr _ rs
theorem OutS.rt {d : Mp.D} {v : V} (o : OutS X W l φ χ H (.ok (.rt d) h) D) (hr : HR X.K X.mg φ χ H l h) (rv : RV X.K φ χ H d v) : D.rt v H := o _ _ _ .refl hr _ rv
theorem stE_out {σ : Sg} {r : R α} {f : α → Hh → R Fl} (rs : RS X.K φ χ H σ τ) (o : OutS X W l φ χ H (stE σ r f) D) :
    Out X W l τ φ χ H r fun φ' χ' H' a h' => OutS X W l φ' χ' H' (f a h') D := by
  cases r with
  | bad => exact o
  | ex c fs h' => exact fun φ' χ' H' cls dd x hr xv => o φ' χ' H' x hr τ cls dd (rs.ext x) xv
  | ok a h' => exact fun φ' χ' H' x hr => OutS.later x (show OutS X W l φ χ H (f a h') D from o)
/-- the readings -/
def tMS (X : Cx) (W : WX) (l : List Nat) (s : S) : TS := fun D τ H => ∃ φ χ σ h, RS X.K φ χ H σ τ ∧ HR X.K X.mg φ χ H l h ∧ OutS X W l φ χ H (exS l s σ h) D
def tML (X : Cx) (W : WX) (l : List Nat) (ss : SL) : TS := fun D τ H => ∃ φ χ σ h, RS X.K φ χ H σ τ ∧ HR X.K X.mg φ χ H l h ∧ OutS X W l φ χ H (exL l ss σ h) D
theorem psImp {st : Stmt} {t t' : TS} (p : PS X st t) (k : ∀ D τ H, t' D τ H → t D τ H) : PS X st t' := ⟨fun pins s σ H D I q => p.run pins s σ H D I (k D σ H q)⟩
theorem pssImp {st : List Stmt} {t t' : TS} (p : PSs X st t) (k : ∀ D τ H, t' D τ H → t D τ H) : PSs X st t' := ⟨fun pins s σ H D I q => p.run pins s σ H D I (k D σ H q)⟩
/-- an expression of a statement -/
theorem tM.st {e : E} {σ : Sg} {Q : VK} {f : Mp.D → Hh → R Fl} (rs : RS X.K φ χ H σ τ) (hr : HR X.K X.mg φ χ H l h) (o : OutS X W l φ χ H (stE σ (evE l e σ h) f) D)
    (k : ∀ φ' χ' H' d h' v, Ext φ χ H φ' χ' H' → HR X.K X.mg φ' χ' H' l h' → RV X.K φ' χ' H' d v → RS X.K φ' χ' H' σ τ → OutS X W l φ' χ' H' (f d h') D → Q v H') : tM X W l e τ H Q :=
  tM.to rs hr ((stE_out rs o).mono fun φ' χ' H' d h' _ _ _ g x hr' v rv => k φ' χ' H' d h' v x hr' rv (rs.ext x) g)

theorem m_pass {pos : Pos} : PS X (.Pass pos) (tMS X W l .pass) := psImp ps_pass fun D τ H ⟨φ, χ, σ, h, rs, hr, o⟩ => by
  unfold exS at o
  exact o.nx hr rs
theorem m_never {st : Stmt} : PS X st (tMS X W l .never) := psImp ps_never fun D τ H ⟨φ, χ, σ, h, rs, hr, o⟩ => by
  unfold exS at o
  exact o
theorem m_docS {x j pos pos'} : PS X (.Expr (.Constant (.str x) j pos) pos') (tMS X W l .pass) := psImp ps_doc fun D τ H ⟨φ, χ, σ, h, rs, hr, o⟩ => by
  unfold exS at o
  exact o.nx hr rs
theorem m_ex {e : Expr} {ee : E} {pos : Pos} (he : PE X e (tM X W l ee)) (hs : swapsWith e none pos.line X.env = pure false) : PS X (.Expr e pos) (tMS X W l (.ex ee)) :=
  psImp (ps_expr he hs) fun D τ H ⟨φ, χ, σ, h, rs, hr, o⟩ => by
    unfold exS at o
    exact tM.st rs hr o fun φ' χ' H' d h' v x hr' rv rs' g => g.nx hr' rs'
theorem m_set {i : Nat} {x : Str} {e : Expr} {ee : E} {pos pos' : Pos} (hN : X.N.Nodup) (hi : X.N[i]? = some x) (hx : Loc X.env.scope x) (he : PE X e (tM X W l ee))
    (hs : swapsWith e (some (.Name x pos')) pos.line X.env = pure false) (hf : X.fn x = true ∨ X.env.scope.names.lookup x = some .local) : PS X (.Assign [.Name x pos'] e pos) (tMS X W l (.set i ee)) :=
  psImp (ps_set hN hi hx he hs hf) fun D τ H ⟨φ, χ, σ, h, rs, hr, o⟩ => by
    unfold exS at o
    exact tM.st rs hr o fun φ' χ' H' d h' v x hr' rv rs' g => g.nx hr' (rs'.set i rv)
theorem m_ret {e : Expr} {ee : E} {pos : Pos} (he : PE X e (tM X W l ee)) : PS X (.Return (some e) pos) (tMS X W l (.ret ee)) :=
  psImp (ps_ret he) fun D τ H ⟨φ, χ, σ, h, rs, hr, o⟩ => by
    unfold exS at o
    exact tM.st rs hr o fun φ' χ' H' d h' v x hr' rv rs' g => g.rt hr' rv
theorem m_retN {pos : Pos} : PS X (.Return none pos) (tMS X W l (.ret (.cst .non))) :=
  psImp ps_retN fun D τ H ⟨φ, χ, σ, h, rs, hr, o⟩ => by
    unfold exS evE at o
    exact OutS.rt (show OutS X W l φ χ H (.ok (.rt .non) h) D from o) hr .non
theorem m_iteS {c : Expr} {ec : E} {a b : List Stmt} {sa sb : SL} {pos : Pos} (hc : PT X c (tMt X W l ec)) (ha : PSs X a (tML X W l sa)) (hb : PSs X b (tML X W l sb)) : PS X (.If c a b pos) (tMS X W l (.ite ec sa sb)) :=
  psImp (ps_if hc ha hb) fun D τ H ⟨φ, χ, σ, h, rs, hr, o⟩ => by
    unfold exS at o
    refine tMt.of rs hr ((stE_out rs o).mono fun φ1 χ1 H1 d h1 _ x1 hr1 g => ?_)
    unfold boolV at g
    split at g
    · rename_i k _
      refine ⟨k, rfl, fun _ => ?_⟩
      cases k with
      | true => exact ⟨φ1, χ1, σ, h1, rs.ext x1, hr1, g⟩
      | false => exact ⟨φ1, χ1, σ, h1, rs.ext x1, hr1, g⟩
    · exact g.elim
/-! ### blocks -/
theorem m_nilS : PSs X [] (tML X W l .nil) := pssImp pss_nil fun D τ H ⟨φ, χ, σ, h, rs, hr, o⟩ => by
  unfold exL at o
  exact o.nx hr rs
theorem m_consS {st : Stmt} {sts : List Stmt} {s : S} {ss : SL} (h1 : PS X st (tMS X W l s)) (h2 : PSs X sts (tML X W l ss)) : PSs X (st :: sts) (tML X W l (.cons s ss)) :=
  pssImp (pss_cons h1 h2) fun D τ H ⟨φ, χ, σ, h, rs, hr, o⟩ => by
    unfold exL at o
    refine ⟨φ, χ, σ, h, rs, hr, ?_⟩
    cases e : exS l s σ h with
    | bad => rw [e] at o; exact o
    | ex x fs h' => rw [e] at o; exact o
    | ok fl h' =>
      rw [e] at o
      have o : OutS X W l φ χ H (seqFl (fun σ' h' => exL l ss σ' h') fl h') D := o
      cases fl with
      | nx σ1 => exact fun φ1 χ1 H1 x1 hr1 τ1 rs1 => ⟨φ1, χ1, σ1, h', rs1, hr1, OutS.later x1 o⟩
      | rt d => exact o
      | xc c fs σ1 => exact o
theorem m_killS {sts : List Stmt} {is : List Nat} {ss : SL} (h2 : PSs X sts (tML X W l ss)) : PSs X sts (tML X W l (.cons (.kill is) ss)) :=
  pssImp h2 fun D τ H ⟨φ, χ, σ, h, rs, hr, o⟩ => by
    unfold exL exS at o
    exact ⟨φ, χ, killAll σ is, h, rs.kill is, hr, o⟩

/-! ### a, b = a list -/
section
variable {prog : Program} {w : World} {A : Around} {E : Value → Shared → Prop}
theorem drawL {it b : Addr} {xs : Array Value} (off : b ≠ it) : ∀ (k j : Nat) (z : Shared) (Q : List Value → Shared → Prop), z.heap.IsListIter it b j → z.heap.IsList b xs → j + k ≤ xs.size →
    (∀ g, g.IsListIter it b (j + k) → Heap.SameBut it z.heap g → Q ((xs.toList.drop j).take k) { z with heap := g }) → wpAny (model prog w) A (draw (.ref it) k) Q E z := by
  intro k
  induction k with
  | zero =>
    intro j z Q i1 _ _ q
    show wpAny _ _ (pure []) Q E z
    exact wpAny_pure (by simpa using q z.heap i1 (Heap.SameBut.refl ..))
  | succ k ih =>
    intro j z Q i1 l1 sz q
    have jl : j < xs.size := by omega
    show wpAny _ _ (pyNext (.ref it) >>= _) Q E z
    refine wpAny_bind (wpAny_pyNext_list_item i1 l1 (x := xs[j]) (by simp [jl]) fun g i2 g1 => ?_)
    refine wpAny_bind (wpAny_holding (ih (j + 1) _ _ i2 (l1.extBut g1.extBut off) (by omega) fun g' i3 g2 => wpAny_pure ?_))
    have dr : xs.toList.drop j = xs[j] :: xs.toList.drop (j + 1) := by
      rw [List.drop_eq_getElem_cons (by simpa using jl)]; simp
    have r := q g' (by rw [show j + (k + 1) = j + 1 + k by omega]; exact i3) (g1.trans g2)
    rw [dr] at r
    rw [List.take_succ_cons] at r
    exact r
theorem unpackL {z : Shared} {b : Addr} {xs : Array Value} {Q : List Value → Shared → Prop} (hh : A.handled = none) (l1 : z.heap.IsList b xs)
    (q : ∀ g, Heap.ExtBut z.heap.objs.size z.heap g → Q xs.toList { z with heap := g }) : wpAny (model prog w) A (unpackItems (.ref b) xs.size none) Q E z := by
  have off : b ≠ z.heap.objs.size := by
    obtain ⟨o, e, _⟩ := l1
    exact Nat.ne_of_lt (Heap.lt_size e)
  unfold unpackItems
  refine wpAny_bind ?_
  unfold notIterableAtAll
  refine wpAny_bind (wpAny_specialOf l1.typeIs slot_list_iter.lookup ?_)
  refine wpAny_pure ?_
  simp only [Bool.false_eq_true, if_false]
  refine wpAny_bind (wpAny_holding (wpAny_pyIter_list l1 ?_))
  refine wpAny_bind (wpAny_holding (drawL off xs.size 0 _ _ ⟨_, Heap.get?_push_size _ rfl, rfl, rfl⟩ (l1.push _) (by omega) fun g i2 g1 => ?_))
  have all : List.take xs.size (List.drop 0 xs.toList) = xs.toList := by
    rw [List.drop_zero, List.take_of_length_le (Nat.le_of_eq Array.length_toList)]
  rw [all, if_neg (by simp)]
  have l2 := (l1.push _).extBut g1.extBut off
  refine wpAny_bind (wpAny_holding (wpAny_pyNext_list_end hh i2 l2 (by simp) fun g' g2 => ?_))
  simp only [Option.isSome_none, Bool.false_eq_true, if_false]
  refine wpAny_pure (q g' fun c o off' e => g2 c o off' ?_)
  exact g1.extBut c o off' (Heap.get?_push_of_some _ e)
theorem assignL {z : Shared} {env : Env} {ts : List Expr} {k : Nat} {pos : Pos} {b : Addr} {xs : Array Value} {Q : Unit → Shared → Prop} (hh : A.handled = none) (l1 : z.heap.IsList b xs)
    (hn : (assignEach ts env).length = xs.size) (hstar : (assignEach ts env).findIdx? (·.1) = none)
    (q : ∀ g, Heap.ExtBut z.heap.objs.size z.heap g → wpAny (model prog w) A (assignInOrder ((assignEach ts env).map (·.2)) xs.toList) Q E { z with heap := g }) :
    wpAny (model prog w) A (assign (.Tuple ts k pos) env (.ref b)) Q E z := by
  rw [arm_assign_Tuple]
  refine wpAny_bind (wpAny_standAt ?_)
  unfold unpack
  rw [hn, hstar]
  exact wpAny_bind (wpAny_holding (unpackL hh l1 q))
end
/-- (a, b, ..) = a tuple or a list of that length -/
def gTL (K : PySem.W.Frag) (n : Nat) (t : TGs) : TG := fun v σ H Q => ∃ a xs, v = .ref a ∧ (SqT K H a xs ∨ SqL K H a xs) ∧ xs.length = n ∧ t xs σ H Q
theorem pg_tl {X : Cx} {pos : Pos} {es : List Expr} {k : Nat} {t : TGs} {n : Nat} (hc : X.calm = true) (h : PGs X es t)
    (hn : (assignEach es X.env).length = n := by rfl) (hst : (assignEach es X.env).findIdx? (·.1) = none := by rfl) : PG X (.Tuple es k pos) (gTL X.K n t) := by
  refine ⟨fun pins s σ H v u Q I r hw => ?_⟩
  obtain ⟨a, xs, rfl, hq | hq, hl, hw⟩ := hw
  · exact (pg_tup hc h hn hst).run pins s σ H (.ref a) u Q I r ⟨a, xs, rfl, hq, hl, hw⟩
  · cases r
    obtain ⟨its, rv, ⟨o, m, ho, hc', _, hd⟩, hz⟩ := I.list hq
    refine assignL (xs := its.toArray) (I.ok.hd hc) ⟨o, ho, hc', m, hd⟩ (by simp [hn, ← hl, rv.length]) hst fun g hx => ?_
    have I1 : Inv X pins σ H { s with heap := g } := I.kept (t' := s.toks) fun b o e => hx b o (Nat.ne_of_lt (Heap.lt_size e)) e
    exact h.run pins _ σ H xs _ Q I1 (by simpa using rv) hw
/-! ### several targets -/
def gNs : List Nat → TGs
  | [] => gNil
  | i :: is => gCons (gName i) (gNs is)
theorem gNs_run : ∀ {is : List Nat} {ds : List Mp.D} {vs : List V} {σ σ' : Sg} {τ : L2.St} {Q : L2.St → Hp → Prop}, RS K φ χ H σ τ → RVs K φ χ H ds vs → setAll σ is ds = some σ' → (∀ τ', RS K φ χ H σ' τ' → Q τ' H) → gNs is vs τ H Q
  | [], [], _, σ, σ', τ, Q, rs, .nil, e, k => by
    cases e
    exact ⟨rfl, k τ rs⟩
  | i :: is, d :: ds, _, σ, σ', τ, Q, rs, .cons (v := v) (vs := vs) r t, e, k => by
    refine ⟨v, vs, rfl, ?_⟩
    exact gNs_run (rs.set i r) t (show setAll (σ.set i (some d)) is ds = some σ' from e) k
  | [], _ :: _, _, _, _, _, _, _, _, e, _ => nomatch e
  | _ :: _, [], _, _, _, _, _, _, _, e, _ => nomatch e
theorem setAll_len : ∀ {is : List Nat} {ds : List Mp.D} {σ σ' : Sg}, setAll σ is ds = some σ' → ds.length = is.length
  | [], [], _, _, _ => rfl
  | i :: is, d :: ds, σ, σ', e => by
    have := setAll_len (show setAll (σ.set i (some d)) is ds = some σ' from e)
    simp [this]
  | [], _ :: _, _, _, e => nomatch e
  | _ :: _, [], _, _, e => nomatch e
theorem gTup_run {is : List Nat} {d : Mp.D} {v : V} {σ σ' : Sg} {Q : L2.St → Hp → Prop} (rs : RS K φ χ H σ τ) (rv : RV K φ χ H d v) {ds : List Mp.D} (ed : d = .tup ds) (e : setAll σ is ds = some σ') (k : ∀ τ', RS K φ χ H σ' τ' → Q τ' H) :
    gTup K is.length (gNs is) v τ H Q := by
  subst ed
  cases rv with
  | @tup a vs _ t s => exact ⟨a, vs, rfl, t.sq, by rw [← s.length, setAll_len e], gNs_run rs s e k⟩
theorem gTL_run {is : List Nat} {d : Mp.D} {v : V} {h : Hh} {σ σ' : Sg} {Q : L2.St → Hp → Prop} (hr : HR K mg φ χ H l h) (rs : RS K φ χ H σ τ) (rv : RV K φ χ H d v) {ds : List Mp.D} (ed : Mp.seqOf h d = some ds) (e : setAll σ is ds = some σ') (k : ∀ τ', RS K φ χ H σ' τ' → Q τ' H) :
    gTL K is.length (gNs is) v τ H Q := by
  obtain ⟨a, vs, rfl, q, s⟩ := rv.seqOf hr ed
  exact ⟨a, vs, rfl, q.symm, by rw [← s.length, setAll_len e], gNs_run rs s e k⟩
theorem m_unp {is : List Nat} {es : List Expr} {e : Expr} {ee : E} {k : Nat} {pos tpos : Pos} (he : PE X e (tM X W l ee)) (hg : PG X (.Tuple es k tpos) (gTL X.K is.length (gNs is)))
    (hs : swapsWithSole [.Tuple es k tpos] e pos.line X.env = pure false) (hw : swappedStores [.Tuple es k tpos] e X.env = pure none)
    (h1 : (assignEach [.Tuple es k tpos] X.env).map (·.2) = [assign (.Tuple es k tpos) X.env]) : PS X (.Assign [.Tuple es k tpos] e pos) (tMS X W l (.unp is ee)) :=
  psImp (ps_asg he hg hs hw h1) fun D τ H ⟨φ, χ, σ, h, rs, hr, o⟩ => by
    unfold exS at o
    refine tM.st rs hr o fun φ' χ' H' d h' v x hr' rv rs' g => ?_
    unfold unpV at g
    split at g
    · rename_i ds eds
      unfold someV at g
      split at g
      · rename_i σ' e
        exact gTL_run hr' rs' rv eds e fun τ' rs2 => (show OutS X W l φ' χ' H' (.ok (.nx σ') h') D from g).nx hr' rs2
      · exact g.elim
    · exact g.elim
theorem m_par {i j : Nat} {x y : Str} {a b : Expr} {es : EL} {px py pt pos : Pos} {kt k2 pt2} (hc : X.calm = true) (hN : X.N.Nodup) (hi : X.N[i]? = some x) (hj : X.N[j]? = some y) (hij : i ≠ j)
    (hx : X.env.scope.names.lookup x = some .local) (hy : X.env.scope.names.lookup y = some .local) (ha : PA X [a, b] (tMs X W l es))
    (hw : swappedStores [.Tuple [.Name x px, .Name y py] kt pt] (.Tuple [a, b] k2 pt2) X.env = pure (some [x, y]))
    (hs : swapsWithSole [.Tuple [.Name x px, .Name y py] kt pt] (.Tuple [a, b] k2 pt2) pos.line X.env = pure false) :
    PS X (.Assign [.Tuple [.Name x px, .Name y py] kt pt] (.Tuple [a, b] k2 pt2) pos) (tMS X W l (.par i j es)) :=
  psImp (ps_par hc hN hi hj hij hx hy ha hw hs) fun D τ H ⟨φ, χ, σ, h, rs, hr, o⟩ => by
    unfold exS at o
    refine tMs.of rs hr ((stE_out rs o).mono fun φ1 χ1 H1 ds h1 _ x1 _ g _ hr1 vs rvs => ?_)
    unfold parV at g
    split at g
    · obtain ⟨v, w, rfl, r1, r2⟩ := rvs.two
      exact ⟨v, w, rfl, OutS.nx (show OutS X W l φ1 χ1 H1 (.ok (.nx _) h1) D from g) hr1 (((rs.ext x1).set i r1).set j r2)⟩
    · exact g.elim
end
end Mp

set_option maxRecDepth 100000
/-! Mp3b: stores into lists, sources, loops. -/
namespace Mp
open PySem PySem.Spec PyProof.Rows L2

section
variable {X : Cx} {W : WX} {l : List Nat} {τ : L2.St} {φ φ' φ1 : List Addr} {χ χ' χ1 : Ads} {H H' H1 H0 : Hp} {h h' : Hh} {α β : Type} {K : PySem.W.Frag} {mg : Str → Option Value} {D : Ends}

theorem unds_set {b : Nat} {d : Mp.D} (hd : d.und b = true) : ∀ {ds : List Mp.D} {j : Nat}, Mp.D.unds b ds = true → Mp.D.unds b (ds.set j d) = true
  | [], _, _ => by simp [Mp.D.unds]
  | e :: es, 0, h => by
    have := unds_all.mp h
    exact unds_all.mpr fun x hx => by
      rcases List.mem_cons.mp (show x ∈ d :: es from hx) with q | q
      · rw [q]; exact hd
      · exact this x (by simp [q])
  | e :: es, j + 1, h => by
    have h' := unds_all.mp h
    have := unds_set hd (ds := es) (j := j) (unds_all.mpr fun x hx => h' x (by simp [hx]))
    exact unds_all.mpr fun x hx => by
      rcases List.mem_cons.mp (show x ∈ e :: es.set j d from hx) with q | q
      · rw [q]; exact h' e (by simp)
      · exact unds_all.mp this x q
theorem set_both (hu : X.A.units + 1 < cLine) : PSet X fun o i v H Q => rSetL o i v H Q ∨ rSetD o i v H Q := by
  intro pins s σ H o i v ov iv u Q I ro ri rv h
  rcases h with h | h
  · exact set_list pins s σ H o i v ov iv u Q I ro ri rv h
  · exact set_dict hu pins s σ H o i v ov iv u Q I ro ri rv h
theorem m_ixSet {o i e : Expr} {eo ei ee : E} {pos pos' : Pos} (hu : X.A.units + 1 < cLine) (ho : PE X o (tM X W l eo)) (hi : PE X i (tM X W l ei)) (he : PE X e (tM X W l ee))
    (ha : ∀ v, assign (.Subscript o i pos') X.env v = (do
      let ov ← holding [v] (eval o X.env)
      let iv ← holding [v, ov] (eval i X.env)
      standAt pos'
      holding [v, ov, iv] (PySem.setItem ov iv v)
      release [v, ov, iv] []))
    (hs : swapsWithSole [.Subscript o i pos'] e pos.line X.env = pure false) (hw : swappedStores [.Subscript o i pos'] e X.env = pure none)
    (h1 : (assignEach [.Subscript o i pos'] X.env).map (·.2) = [assign (.Subscript o i pos') X.env]) : PS X (.Assign [.Subscript o i pos'] e pos) (tMS X W l (.ixSet eo ei ee)) :=
  psImp (ps_asg he (pg_sub ho hi (set_both hu) ha) hs hw h1) fun D τ H ⟨φ, χ, σ, h, rs, hr, oo⟩ => by
    unfold exS at oo
    refine tM.st rs hr oo fun φ1 χ1 H1 z h1 vz x1 hr1 rz rs1 g1 => ?_
    refine tM.st rs1 hr1 g1 fun φ2 χ2 H2 x h2 vx x2 hr2 rx rs2 g2 => ?_
    refine tM.st rs2 hr2 g2 fun φ3 χ3 H3 y h3 vy x3 hr3 ry rs3 g3 => ?_
    have rx3 := rx.ext x3
    have rz3 := rz.ext (x2.trans x3)
    unfold Mp.setItem at g3
    split at g3
    · rename_i n k
      split at g3
      · rename_i xs e
        split at g3
        · rename_i j ej
          split at g3
          · rename_i hst
            cases ry
            cases rx3 with
            | ref q =>
              obtain ⟨ws, ha', s⟩ := hr3.getL q e
              obtain ⟨x, hr4⟩ := hr3.wr q e ha' (s.set rz3 j) fun b hb => by
                rcases stOk_all hst b hb with z' | z'
                · exact .inl z'
                · rcases hr3.limL e b hb with y' | y'
                  · exact .inl y'
                  · exact .inr (unds_set z' y')
              exact .inl ⟨_, ws, k, j, rfl, rfl, ha', by rw [← s.length, ixAt_eq]; exact ej, OutS.nx (OutS.later x (show OutS X W l φ3 χ3 H3 (.ok (.nx σ) _) D from g3)) hr4 (rs3.ext x)⟩
          · exact g3.elim
        · exact g3.elim
      · cases ry
        obtain ⟨a, H', e1, e2, x, h', hr4, e3⟩ := setDk_ok hr3 rx3 (k := .inl k) (u := .int k) rfl rz3 (fun e => by rw [e] at g3; exact g3)
        rw [e3] at g3
        exact .inr ⟨a, H', e1, e2, OutS.nx (OutS.later x (show OutS X W l φ3 χ3 H3 (.ok (.nx σ) h') D from g3)) hr4 (rs3.ext x)⟩
    · cases ry
      rename_i n k
      obtain ⟨a, H', e1, e2, x, h', hr4, e3⟩ := setDk_ok hr3 rx3 (k := .inr k) (u := .str k) rfl rz3 (fun e => by rw [e] at g3; exact g3)
      rw [e3] at g3
      exact .inr ⟨a, H', e1, e2, OutS.nx (OutS.later x (show OutS X W l φ3 χ3 H3 (.ok (.nx σ) h') D from g3)) hr4 (rs3.ext x)⟩
    · exact g3.elim

/-! ### what a loop walks -/
/-- an iterator that yields these items, as long as what is watched stands -/
def SrcJ (X : Cx) (l : List Nat) (φ : List Addr) (χ : Ads) (H : Hp) (dw : List Mp.D × Wt) (J : L2.It) : Prop := ∀ φ2 χ2 H2 h2, Ext φ χ H φ2 χ2 H2 → HR X.K X.mg φ2 χ2 H2 l h2 → watch dw.2 h2 →
  (∀ i d, dw.1[i]? = some d → J.go i H2 ∧ ∀ x H3, J.yld i H2 x H3 → Ext φ2 χ2 H2 φ2 χ2 H3 ∧ HR X.K X.mg φ2 χ2 H3 l h2 ∧ RV X.K φ2 χ2 H3 d x) ∧ J.stop dw.1.length H2
def iM (X : Cx) (W : WX) (l : List Nat) (src : Mp.It) : TI := fun τ H R => ∃ φ χ σ h, RS X.K φ χ H σ τ ∧ HR X.K X.mg φ χ H l h ∧
  Out X W l τ φ χ H (evI l src σ h) fun φ' χ' H' dw _ => ∀ J, SrcJ X l φ' χ' H' dw J → R J H'
theorem piImp {tg e : Expr} {t t' : TI} (p : PI X tg e t) (k : ∀ τ H R, t' τ H R → t τ H R) : PI X tg e t' := ⟨fun pins s σ H R I q => p.run pins s σ H R I (k σ H R q)⟩
/-- the items of a value that is walked, later on -/
def Sq (K : PySem.W.Frag) (t : Bool) (H : Hp) (a : Addr) (xs : List V) : Prop := if t = true then SqT K H a xs else SqL K H a xs
def SrcA (X : Cx) (l : List Nat) (φ : List Addr) (χ : Ads) (H : Hp) (dw : List Mp.D × Wt) (t : Bool) (a : Addr) : Prop := ∀ φ2 χ2 H2 h2, Ext φ χ H φ2 χ2 H2 → HR X.K X.mg φ2 χ2 H2 l h2 → watch dw.2 h2 → ∃ vs, Sq X.K t H2 a vs ∧ RVs X.K φ2 χ2 H2 dw.1 vs
theorem RV.src (hr : HR X.K X.mg φ χ H l h) {d : Mp.D} {v : V} (r : RV X.K φ χ H d v) {dw : List Mp.D × Wt} (e : srcOf h d = some dw) : ∃ a t, v = .ref a ∧ SrcA X l φ χ H dw t a ∧ t = isTup d := by
  cases r with
  | @tup a vs ds t s =>
    have e' : (ds, ([] : Wt)) = dw := Option.some.inj e
    subst e'
    exact ⟨a, true, rfl, fun φ2 χ2 H2 h2 x hr2 w => ⟨vs, (t.ext x).sq, s.ext x⟩, rfl⟩
  | @lst a vs ds n z s =>
    have e' : (ds, ([] : Wt)) = dw := Option.some.inj e
    subst e'
    exact ⟨a, false, rfl, fun φ2 χ2 H2 h2 x hr2 w => ⟨vs, SqL.of (x.keep _ _ n z), s.ext x⟩, rfl⟩
  | @scr a ns s =>
    have e' : (ns.map Mp.D.int, ([] : Wt)) = dw := Option.some.inj e
    subst e'
    exact ⟨a, false, rfl, fun φ2 χ2 H2 h2 x hr2 w => ⟨_, (s.ext x).sq, RVs.ints ns⟩, rfl⟩
  | @ref n a q =>
    obtain ⟨ds, e1, e2⟩ := Option.map_eq_some_iff.mp (show (getL h n).map (fun ds => (ds, ([(n, ds)] : Wt))) = some dw from e)
    subst e2
    refine ⟨a, false, rfl, fun φ2 χ2 H2 h2 x hr2 w => ?_, rfl⟩
    obtain ⟨vs, z, s⟩ := hr2.getL (x.at q) (w (n, ds) (by simp))
    exact ⟨vs, SqL.of z, s⟩
  | _ => simp [srcOf, Mp.seqOf, Mp.listOf, Mp.lstOf] at e
/-- over a list or a tuple -/
def iSeqA (K : PySem.W.Frag) (tl : TE) : TI := fun σ H R => tl σ H fun x H1 => ∃ a t xs, x = .ref a ∧ Sq K t H1 a xs ∧ R (if t = true then Itt K a else Itl K a) H1
theorem pi_seqA {tg e : Expr} {tl : TE} (hl : PE X e tl) : PI X tg e (iSeqA X.K tl) := by
  refine ⟨fun pins s σ H R I h => thn (hl.run pins s σ H _ I h) fun v s1 ⟨x, H1, I1, r1, a, t, xs, e, hq, q⟩ => ?_⟩
  subst e
  cases r1
  have fp : ∀ b ∈ [s1.heap.objs.size], FpOk X pins H1 b := fun b hb => by
    obtain rfl : b = s1.heap.objs.size := by simpa using hb
    exact I1.fpOk (Nat.le_refl _) (I1.hok.fresh (Nat.le_refl _))
  cases t with
  | false =>
    obtain ⟨its, rv, p, hz⟩ := I1.list (show SqL X.K H1 a xs from hq)
    exact wpAny_pyIter_list p.isList ⟨s1.heap.objs.size, [s1.heap.objs.size], _, _, H1, rfl, I1.kept (t' := s1.toks) fun b o e => Heap.get?_push_of_some _ e, turn_list a _, ⟨_, Heap.get?_push_size _ rfl, rfl, rfl⟩, fp, q⟩
  | true =>
    obtain ⟨its, rv, p, hz⟩ := I1.tuple (show SqT X.K H1 a xs from hq)
    exact wpAny_pyIter_tuple (show s1.heap.IsTuple a its.toArray from p) ⟨s1.heap.objs.size, [s1.heap.objs.size], _, _, H1, rfl, I1.kept (t' := s1.toks) fun b o e => Heap.get?_push_of_some _ e, turn_tuple a _, ⟨_, Heap.get?_push_size _ rfl, rfl, rfl⟩, fp, q⟩
theorem RVs.get' {ds : List Mp.D} {vs : List V} (r : RVs K φ χ H ds vs) {i : Nat} {x : V} (e : vs[i]? = some x) {d : Mp.D} (ed : ds[i]? = some d) : RV K φ χ H d x := by
  obtain ⟨v, q1, q2⟩ := r.get ed
  rw [q1] at e; cases e
  exact q2
theorem SrcA.it {dw : List Mp.D × Wt} {t : Bool} {a : Addr} (s : SrcA X l φ χ H dw t a) : SrcJ X l φ χ H dw (if t = true then Itt X.K a else Itl X.K a) := by
  intro φ2 χ2 H2 h2 x hr2 w
  obtain ⟨vs, q, rvs⟩ := s φ2 χ2 H2 h2 x hr2 w
  have hl := rvs.length
  cases t with
  | false =>
    refine ⟨fun i d e => ?_, ⟨vs, q, by rw [hl]; exact Nat.le_refl _⟩⟩
    obtain ⟨v, e1, rv⟩ := rvs.get e
    refine ⟨⟨vs, v, q, e1⟩, fun y H3 ⟨eh, k⟩ => ?_⟩
    subst eh
    exact ⟨.refl, hr2, rvs.get' (k vs q) e⟩
  | true =>
    refine ⟨fun i d e => ?_, ⟨vs, q, by rw [hl]; exact Nat.le_refl _⟩⟩
    obtain ⟨v, e1, rv⟩ := rvs.get e
    refine ⟨⟨vs, v, q, e1⟩, fun y H3 ⟨eh, k⟩ => ?_⟩
    subst eh
    exact ⟨.refl, hr2, rvs.get' (k vs q) e⟩
theorem someV_out {o : Option α} {good : List Addr → Ads → Hp → α → Hh → Prop} (g : Out X W l τ φ χ H (someV h o) good) : ∃ a, o = some a ∧ Out X W l τ φ χ H (.ok a h) good := by
  cases o with
  | none => exact g.elim
  | some a => exact ⟨a, rfl, g⟩
theorem watch_now {d : Mp.D} {dw : List Mp.D × Wt} (e : srcOf h d = some dw) : watch dw.2 h := by
  cases d with
  | ref n =>
    obtain ⟨ds, e1, e2⟩ := Option.map_eq_some_iff.mp (show (getL h n).map (fun ds => (ds, ([(n, ds)] : Wt))) = some dw from e)
    subst e2
    intro p hp
    obtain rfl : p = (n, ds) := by simpa using hp
    exact e1
  | _ =>
    simp only [srcOf] at e
    obtain ⟨ds, e1, e2⟩ := Option.map_eq_some_iff.mp e
    subst e2
    intro p hp
    simp at hp
theorem m_srcSeq {tg e : Expr} {ee : E} (he : PE X e (tM X W l ee)) : PI X tg e (iM X W l (.seq ee)) :=
  piImp (pi_seqA he) fun τ H R ⟨φ, χ, σ, h, rs, hr, o⟩ => by
    unfold evI at o
    refine tM.to rs hr (o.bind.mono fun φ1 χ1 H1 d1 h1 _ x1 _ g1 _ hr1 v1 rv1 => ?_)
    obtain ⟨dw, e, g⟩ := someV_out g1
    obtain ⟨a, t, rfl, s, _⟩ := rv1.src hr1 e
    obtain ⟨vs, q, _⟩ := s _ _ _ _ .refl hr1 (watch_now e)
    exact ⟨a, t, vs, rfl, q, g _ _ _ .refl hr1 _ s.it⟩
theorem rg_get {a b : Int} {i : Nat} {d : Mp.D} (e : (rg a b)[i]? = some d) : i < (b - a).toNat ∧ d = .int (a + i) := by
  unfold rg at e
  rw [List.getElem?_map] at e
  obtain ⟨j, e1, e2⟩ := Option.map_eq_some_iff.mp e
  obtain ⟨hl, e3⟩ := List.getElem?_eq_some_iff.mp e1
  simp at hl e3
  subst e3
  exact ⟨by omega, e2.symm⟩
theorem rg_len {a b : Int} : (rg a b).length = (b - a).toNat := by unfold rg; simp
theorem SrcJ.rg {a b : Int} : SrcJ X l φ χ H (Mp.rg a b, []) (Itr a (b - a).toNat) := by
  intro φ2 χ2 H2 h2 x hr2 w
  refine ⟨fun i d e => ?_, by rw [rg_len]; exact Nat.le_refl _⟩
  obtain ⟨hi, rfl⟩ := rg_get e
  refine ⟨hi, fun y H3 ⟨eh, ey⟩ => ?_⟩
  subst eh ey
  exact ⟨.refl, hr2, .int _⟩
theorem m_srcRg1 {tg a : Expr} {ea : E} {p pos : Pos} (hg : Gl X "range") (hm : X.mg "range" = none) (ha : PE X a (tM X W l ea)) (hs : starEach [a] X.env = [(false, eval a X.env)]) :
    PI X tg (.Call (.Name "range" p) [a] [] pos) (iM X W l (.rg1 ea)) :=
  piImp (pi_range1 hg hm (pa_cons ha pa_nil hs) hs) fun τ H R ⟨φ, χ, σ, h, rs, hr, o⟩ => by
    unfold evI at o
    refine tM.to rs hr (o.bind.mono fun φ1 χ1 H1 d1 h1 _ x1 _ g1 _ hr1 v1 rv1 => ?_)
    cases d1 with
    | int j =>
      unfold Mp.rgV at g1
      simp only at g1
      split at g1
      · rename_i hk
        have hk := rgOk_of hk
        cases rv1
        exact ⟨_, rfl, hk.2.2.1, hk.2.2.2.1, g1 _ _ _ .refl hr1 _ (by have := SrcJ.rg (X := X) (l := l) (φ := φ1) (χ := χ1) (H := H1) (a := 0) (b := j); simpa using this)⟩
      · exact g1.elim
    | _ => exact g1.elim
theorem m_srcRg2 {tg a b : Expr} {ea eb : E} {p pos : Pos} (hg : Gl X "range") (hm : X.mg "range" = none) (ha : PE X a (tM X W l ea)) (hb : PE X b (tM X W l eb)) (hs : starEach [a, b] X.env = [(false, eval a X.env), (false, eval b X.env)]) (hs2 : starEach [b] X.env = [(false, eval b X.env)]) :
    PI X tg (.Call (.Name "range" p) [a, b] [] pos) (iM X W l (.rg2 ea eb)) :=
  piImp (pi_range2 hg hm (pa_cons ha (pa_cons hb pa_nil hs2) (by rw [hs, hs2])) hs hs2) fun τ H R ⟨φ, χ, σ, h, rs, hr, o⟩ => by
    unfold evI at o
    refine tM.to rs hr (o.bind.mono fun φ1 χ1 H1 d1 h1 _ x1 _ g1 _ hr1 v1 rv1 => ?_)
    refine tM.to (rs.ext x1) hr1 (g1.bind.mono fun φ2 χ2 H2 d2 h2 _ x2 _ g2 _ hr2 v2 rv2 => ?_)
    unfold Mp.rgV at g2
    split at g2
    · rename_i i j
      split at g2
      · rename_i hk
        have hk := rgOk_of hk
        cases rv1
        cases rv2
        exact ⟨_, _, rfl, ⟨hk.1, hk.2.1, hk.2.2.1, hk.2.2.2.1⟩, g2 _ _ _ .refl hr2 _ SrcJ.rg⟩
      · exact g2.elim
    · exact g2.elim

/-! ### loops -/
def tgM (K : PySem.W.Frag) : List Nat → TG
  | [i] => gName i
  | is => gTup K is.length (gNs is)
theorem tgM_run {tg : List Nat} {d : Mp.D} {v : V} {σ σ' : Sg} {Q : L2.St → Hp → Prop} (rs : RS K φ χ H σ τ) (rv : RV K φ χ H d v) (e : target h tg d σ = some σ') (k : ∀ τ', RS K φ χ H σ' τ' → Q τ' H) : tgM K tg v τ H Q := by
  unfold target at e
  split at e
  · cases e
    exact k _ (rs.set _ rv)
  · rename_i is hne
    split at e
    · have q := gTup_run (K := K) (is := tg) (Q := Q) rs rv rfl e k
      cases tg with
      | nil => exact q
      | cons i is =>
        cases is with
        | nil => exact absurd rfl (hne i)
        | cons j js => exact q
    · cases e
theorem bindT_outS {tg : List Nat} {d : Mp.D} {σ : Sg} {f : Sg → R Fl} (o : OutS X W l φ χ H (bindT h tg d σ f) D) : ∃ σ', target h tg d σ = some σ' ∧ OutS X W l φ χ H (f σ') D := by
  unfold bindT at o
  split at o
  · rename_i σ' e
    exact ⟨σ', e, o⟩
  · exact o.elim
theorem m_while {c : Expr} {ec : E} {body : List Stmt} {sb : SL} {kill : List Nat} {pos : Pos} (hp : PassesOwn (model X.prog X.w) X.A X.env X.xe) (hc : PT X c (tMt X W l ec)) (hb : PSs X body (tML X W l sb)) :
    PS X (.While c body [] pos) (tMS X W l (.while_ ec sb kill)) :=
  psImp (ps_while hp hc hb) fun D τ H ⟨φ, χ, σ, h, rs, hr, o⟩ => by
    unfold exS at o
    have nb : whileL (evE l ec) (thenK kill (exL l sb)) (killAll σ kill) h ≠ .bad := fun e => by rw [e] at o; exact o
    obtain ⟨n, _, en⟩ := whileL_ex nb
    rw [en] at o
    refine ⟨fun m τ H => ∃ φ χ σ h, RS X.K φ χ H σ τ ∧ HR X.K X.mg φ χ H l h ∧ OutS X W l φ χ H (whileN (evE l ec) (thenK kill (exL l sb)) m σ h) D, ⟨n, φ, χ, _, h, rs.kill kill, hr, o⟩, ?_⟩
    rintro m τ H ⟨φ, χ, σ, h, rs, hr, o⟩
    cases m with
    | zero => exact o.elim
    | succ m =>
      refine ⟨φ, χ, σ, h, rs, hr, ?_⟩
      unfold whileN at o
      cases e : evE l ec σ h with
      | bad => rw [e] at o; exact o
      | ex x fs h' =>
        rw [e] at o
        exact fun φ1 χ1 H1 cls dd x1 hr1 xv => o φ1 χ1 H1 x1 hr1 _ cls dd (rs.ext x1) xv
      | ok d h1 =>
        rw [e] at o
        intro φ1 χ1 H1 x1 hr1
        have o1 := OutS.later x1 o
        split at o1
        · rename_i h2 e2
          cases e2
          refine ⟨true, rfl, ?_⟩
          refine ⟨_, fun τ' H' q => ⟨m, Nat.lt_succ_self m, q⟩, φ1, χ1, σ, h1, rs.ext x1, hr1, ?_⟩
          cases eb : exL l sb σ h1 with
          | bad => simp only [thenK, eb] at o1; exact o1
          | ex x fs h' => simp only [thenK, eb] at o1; exact o1
          | ok fl h' =>
            simp only [thenK, eb] at o1
            cases fl with
            | nx σ1 => exact fun φ2 χ2 H2 x2 hr2 τ2 rs2 => ⟨φ2, χ2, _, h', rs2.kill kill, hr2, OutS.later x2 o1⟩
            | rt d => exact o1
            | xc c fs σ1 => exact o1
        · rename_i h2 e2
          cases e2
          exact ⟨false, rfl, o1.nx hr1 (rs.ext x1)⟩
        · exact o1.elim
        · rename_i e2; cases e2
        · rename_i e2; cases e2
theorem ifW_out {w : Wt} {r : R Fl} (o : OutS X W l φ χ H (ifW w h r) D) : watch w h ∧ OutS X W l φ χ H r D := by
  unfold ifW at o
  split at o
  · exact ⟨by assumption, o⟩
  · exact o.elim
theorem m_for {tgx iter : Expr} {body : List Stmt} {tg : List Nat} {src : Mp.It} {sb : SL} {kill : List Nat} {pos : Pos} (hp : PassesOwn (model X.prog X.w) X.A X.env X.xe) (hc : X.calm = true) (hi : PI X tgx iter (iM X W l src)) (hg : PG X tgx (tgM X.K tg)) (hb : PSs X body (tML X W l sb))
    (hs : ∀ x, foldedSetIterable iter X.env x = pure x) : PS X (.For tgx iter body [] pos) (tMS X W l (.for_ tg src sb kill)) :=
  psImp (ps_for hp hc hi hg hb hs) fun D τ H ⟨φ, χ, σ, h, rs, hr, o⟩ => by
    unfold exS at o
    refine ⟨φ, χ, σ, h, rs, hr, (stE_out rs o).mono fun φ1 χ1 H1 dw h1 _ x1 hr1 g J sj => ?_⟩
    refine ⟨fun i m τ H => ∃ φ2 χ2 σ2 h2, Ext φ1 χ1 H1 φ2 χ2 H ∧ RS X.K φ2 χ2 H σ2 τ ∧ HR X.K X.mg φ2 χ2 H l h2 ∧ m = dw.1.length - i ∧ i ≤ dw.1.length ∧
      OutS X W l φ2 χ2 H (forL dw.2 (turnK tg kill (exL l sb)) (dw.1.drop i) σ2 h2) D, ⟨_, φ1, χ1, _, h1, .refl, (rs.ext x1).kill kill, hr1, rfl, Nat.zero_le _, by simpa using g⟩, ?_⟩
    rintro i m τ H ⟨φ2, χ2, σ2, h2, x2, rs2, hr2, rfl, hi, o2⟩
    by_cases hlt : i < dw.1.length
    · rw [List.drop_eq_getElem_cons hlt] at o2
      unfold forL at o2
      obtain ⟨w, o2⟩ := ifW_out o2
      obtain ⟨k1, _⟩ := sj φ2 χ2 H h2 x2 hr2 w
      obtain ⟨go, k2⟩ := k1 i _ (List.getElem?_eq_getElem hlt)
      refine .inr ⟨go, _, fun τ' H' q => ⟨dw.1.length - (i + 1), by omega, q⟩, fun x H' y => ?_⟩
      obtain ⟨x3, hr3, rv⟩ := k2 x H' y
      have nb : OutS X W l φ2 χ2 H' (match bindT h2 tg dw.1[i] σ2 fun σ' => (exL l sb σ' h2).bind (killV kill) with
        | .ok (.nx σ') h' => forL dw.2 (turnK tg kill (exL l sb)) (dw.1.drop (i + 1)) σ' h'
        | r => r) D := OutS.later x3 o2
      cases et : target h2 tg dw.1[i] σ2 with
      | none => unfold bindT at nb; rw [et] at nb; exact nb.elim
      | some σ3 =>
        unfold bindT at nb
        rw [et] at nb
        refine tgM_run (h := h2) (rs2.ext x3) rv et fun τ3 rs3 => ?_
        refine ⟨φ2, χ2, σ3, h2, rs3, hr3, ?_⟩
        simp only at nb
        cases eb : exL l sb σ3 h2 with
        | bad => rw [eb] at nb; exact nb
        | ex c fs h' => rw [eb] at nb; exact nb
        | ok fl h' =>
          rw [eb] at nb
          cases fl with
          | nx σ4 => exact fun φ4 χ4 H4 x4 hr4 τ4 rs4 => ⟨φ4, χ4, _, h', x2.trans (x3.trans x4), rs4.kill kill, hr4, rfl, hlt, OutS.later x4 nb⟩
          | rt d => exact nb
          | xc c fs σ4 => exact nb
    · have ei : i = dw.1.length := by omega
      subst ei
      rw [List.drop_length] at o2
      unfold forL at o2
      obtain ⟨w, o2⟩ := ifW_out o2
      obtain ⟨_, k2⟩ := sj φ2 χ2 H h2 x2 hr2 w
      exact .inl ⟨k2, o2.nx hr2 rs2⟩
end
end Mp

set_option maxRecDepth 100000
/-! Mp3c: list comprehensions. -/
namespace Mp
open PySem PySem.Spec PyProof.Rows L2

theorem wipe_get (τ : L2.St) (j : Nat) : ∀ vs : List Nat, (wipe τ vs)[j]? = if j ∈ vs then (τ[j]?).map (fun _ => none) else τ[j]?
  | [] => by simp [wipe]
  | v :: vs => by
    unfold wipe
    rw [List.getElem?_set, wipe_get τ j vs]
    by_cases e : v = j
    · subst e
      rw [if_pos rfl, if_pos (List.mem_cons_self), wipe_length]
      by_cases hl : v < τ.length
      · rw [if_pos hl, List.getElem?_eq_getElem hl]; rfl
      · rw [if_neg hl, List.getElem?_eq_none (by omega)]; rfl
    · rw [if_neg e]
      by_cases hm : j ∈ vs
      · rw [if_pos hm, if_pos (List.mem_cons_of_mem _ hm)]
      · rw [if_neg hm, if_neg (by simp only [List.mem_cons, not_or]; exact ⟨fun q => e q.symm, hm⟩)]
theorem wipe_set {τ : L2.St} {vs : List Nat} {i : Nat} {x : Option V} (hi : i ∈ vs) : wipe (τ.set i x) vs = wipe τ vs := by
  refine List.ext_getElem? fun j => ?_
  rw [wipe_get, wipe_get]
  by_cases hj : j ∈ vs
  · rw [if_pos hj, if_pos hj, List.getElem?_set]
    by_cases e : i = j
    · subst e
      rw [if_pos rfl]
      by_cases hl : i < τ.length
      · rw [if_pos hl, List.getElem?_eq_getElem hl]; rfl
      · rw [if_neg hl, List.getElem?_eq_none (by omega)]
    · rw [if_neg e]
  · rw [if_neg hj, if_neg hj, List.getElem?_set_ne (by rintro rfl; exact hj hi)]
theorem wipe_idem {τ : L2.St} {vs : List Nat} : wipe (wipe τ vs) vs = wipe τ vs := by
  refine List.ext_getElem? fun j => ?_
  rw [wipe_get, wipe_get]
  by_cases hj : j ∈ vs
  · rw [if_pos hj, if_pos hj, Option.map_map]; rfl
  · rw [if_neg hj, if_neg hj]

section
variable {X : Cx} {W : WX} {l : List Nat} {τ : L2.St} {φ φ' φ1 : List Addr} {χ χ' χ1 : Ads} {H H' H1 H0 : Hp} {h h' : Hh} {α β : Type} {K : PySem.W.Frag} {mg : Str → Option Value}

theorem killAll_get {σ : Sg} {i : Nat} {d : D} : ∀ {is : List Nat}, (killAll σ is)[i]? = some (some d) → σ[i]? = some (some d) ∧ i ∉ is := by
  intro is
  induction is generalizing σ with
  | nil => exact fun e => ⟨e, by simp⟩
  | cons j js ih =>
    intro e
    obtain ⟨e1, e2⟩ := ih (show (killAll (σ.set j none) js)[i]? = some (some d) from e)
    rw [List.getElem?_set] at e1
    split at e1
    · split at e1 <;> cases e1
    · rename_i hne
      exact ⟨e1, by simp only [List.mem_cons, not_or]; exact ⟨fun q => hne q.symm, e2⟩⟩
theorem killAll_len {σ : Sg} : ∀ {is : List Nat}, (killAll σ is).length = σ.length := by
  intro is
  induction is generalizing σ with
  | nil => rfl
  | cons j js ih => exact (ih (σ := σ.set j none)).trans (by simp)
theorem RS.wipe {σ : Sg} (rs : RS K φ χ H σ τ) (vs : List Nat) : RS K φ χ H (killAll σ vs) (L2.wipe τ vs) :=
  ⟨by rw [killAll_len, wipe_length, rs.len], fun i d e => by
    obtain ⟨e1, e2⟩ := killAll_get e
    obtain ⟨v, q1, q2⟩ := rs.at_ i d e1
    exact ⟨v, by rw [wipe_get, if_neg e2]; exact q1, q2⟩⟩
theorem gNs_runW : ∀ {is vs' : List Nat} {ds : List D} {vs : List V} {σ σ' : Sg} {τ : L2.St} {Q : L2.St → Hp → Prop}, (∀ i ∈ is, i ∈ vs') → RS K φ χ H σ τ → RVs K φ χ H ds vs → setAll σ is ds = some σ' → (∀ τ', RS K φ χ H σ' τ' → L2.wipe τ' vs' = L2.wipe τ vs' → Q τ' H) → gNs is vs τ H Q
  | [], _, [], _, σ, σ', τ, Q, _, rs, .nil, e, k => by
    cases e
    exact ⟨rfl, k τ rs rfl⟩
  | i :: is, vs', d :: ds, _, σ, σ', τ, Q, hs, rs, .cons (v := v) (vs := vs) r t, e, k => by
    refine ⟨v, vs, rfl, ?_⟩
    exact gNs_runW (vs' := vs') (fun j hj => hs j (by simp [hj])) (rs.set i r) t (show setAll (σ.set i (some d)) is ds = some σ' from e) fun τ' rs' ew => k τ' rs' (ew.trans (wipe_set (hs i (by simp))))
  | [], _, _ :: _, _, _, _, _, _, _, _, _, e, _ => nomatch e
  | _ :: _, _, [], _, _, _, _, _, _, _, _, e, _ => nomatch e
theorem tgM_runW {tg : List Nat} {d : D} {v : V} {σ σ' : Sg} {Q : L2.St → Hp → Prop} (rs : RS K φ χ H σ τ) (rv : RV K φ χ H d v) (e : target h tg d σ = some σ') (k : ∀ τ', RS K φ χ H σ' τ' → L2.wipe τ' tg = L2.wipe τ tg → Q τ' H) : tgM K tg v τ H Q := by
  unfold target at e
  split at e
  · cases e
    exact k _ (rs.set _ rv) (wipe_set (by simp))
  · rename_i is hne
    split at e
    · have q : gTup K tg.length (gNs tg) v τ H Q := by
        cases rv with
        | @tup a vs _ t s => exact ⟨a, vs, rfl, t.sq, by rw [← s.length, setAll_len e], gNs_runW (fun _ h => h) rs s e k⟩
      cases tg with
      | nil => exact q
      | cons i is =>
        cases is with
        | nil => exact absurd rfl (hne i)
        | cons j js => exact q
    · cases e
/-- in a block nothing may be raised -/
abbrev WF : WX := fun _ _ _ _ => False
/-- a comprehension's test -/
def tcM (X : Cx) (l : List Nat) (c : E) : TT := if isNo c = true then tYes else tMt X WF l c
theorem noEx_ok {r : R α} {f : α → Hh → R β} {good : List Addr → Ads → Hp → β → Hh → Prop} (o : Out X W l τ φ χ H (r.noEx.bind f) good) : ∃ a h', r = .ok a h' ∧ Out X W l τ φ χ H (f a h') good := by
  cases r with
  | ok a h' => exact ⟨a, h', rfl, o⟩
  | ex c fs h' => exact o.elim
  | bad => exact o.elim
theorem compL_cons {w : Wt} {f : D → Hh → R (Option D)} {d : D} {ds rest : List D} {h hf : Hh} (e : compL w f (d :: ds) h = .ok rest hf) :
    watch w h ∧ ∃ o h' xs, f d h = .ok o h' ∧ compL w f ds h' = .ok xs hf ∧ rest = (match o with | some x => x :: xs | none => xs) := by
  unfold compL ifW at e
  split at e
  · rename_i hw
    refine ⟨hw, ?_⟩
    cases e1 : f d h with
    | bad => rw [e1] at e; cases e
    | ex c fs h' => rw [e1] at e; cases e
    | ok o h' =>
      rw [e1] at e
      simp only [R.bind_ok] at e
      cases e2 : compL w f ds h' with
      | bad => rw [e2] at e; cases e
      | ex c fs h' => rw [e2] at e; cases e
      | ok xs h'' =>
        rw [e2] at e
        simp only [R.bind_ok] at e
        cases e
        exact ⟨o, h', xs, rfl, e2, rfl⟩
  · cases e
theorem compL_nil {w : Wt} {f : D → Hh → R (Option D)} {rest : List D} {h hf : Hh} (e : compL w f [] h = .ok rest hf) : watch w h ∧ rest = [] ∧ hf = h := by
  unfold compL ifW at e
  split at e
  · rename_i hw
    cases e
    exact ⟨hw, rfl, rfl⟩
  · cases e
theorem HR.back {hr0 : True} (x : Ext φ χ H φ1 χ1 H1) (hr1 : HR X.K X.mg φ1 χ1 H1 l h') (hr : HR X.K X.mg φ χ H l h) {p : Addr} (hn : H1 p = none) : H p = none := x.back hr1 hr hn
/-- a list kept apart is written -/
theorem wr_apart {p : Addr} {vs ws : List V} (hr : HR X.K X.mg φ χ H l h) (c1 : χ p) (c2 : p ∉ φ) (c3 : H p = some (.lst vs)) :
    ExtW φ χ H φ χ (upd H p (.lst ws)) ∧ HR X.K X.mg φ χ (upd H p (.lst ws)) l h := by
  have x : ExtW φ χ H φ χ (upd H p (.lst ws)) := by
    refine ⟨⟨[], by simp⟩, fun _ q => q, fun _ q n => absurd q n, fun a o n ho => ?_, fun a xs ho => ?_, fun a o xs ho => ?_⟩
    · rw [upd_ne (by rintro rfl; exact n c1)]; exact ho
    · rw [upd_ne (fun e => by rw [e, c3] at ho; cases ho)]; exact ho
    · rw [upd_ne (fun e => by rw [e, c3] at ho; cases ho)]; exact ho
  refine ⟨x, hr.extW x (fun a ha => upd_ne fun e => c2 (e ▸ ha)) fun a q => ?_⟩
  by_cases e : a = p
  · rw [e, upd_same]; simp
  · rw [upd_ne e]; exact hr.ch a q
theorem Ext.wr_new {p : Addr} {o : HO} (x : Ext φ χ H φ1 χ1 H1) (hn : H p = none) : Ext φ χ H φ1 χ1 (upd H1 p o) :=
  ⟨⟨x.pre, x.sub, x.new, fun a u n ho => by rw [upd_ne (ne_of_none ho hn)]; exact x.keep a u n ho, fun a xs ho => by rw [upd_ne (ne_of_none ho hn)]; exact x.tups a xs ho, fun a u xs ho => by rw [upd_ne (ne_of_none ho hn)]; exact x.frl a u xs ho⟩,
    fun a u n ho => by rw [upd_ne (ne_of_none ho hn)]; exact x.kp a u n ho, x.fr⟩
theorem comp_run {e c : E} {tg : List Nat} {src : Mp.It} {Q : VK} (q : tM X W l (.comp e tg src c) τ H Q) : tLc (iM X W l src) (tgM X.K tg) (tcM X l c) (tM X WF l e) tg τ H Q := by
  obtain ⟨φ, χ, σ, h, rs, hr, o⟩ := q
  unfold evE at o
  refine ⟨φ, χ, σ, h, rs, hr, o.bind.mono fun φ1 χ1 H1 dw h1 _ x1 hr1 g J sj => ?_⟩
  obtain ⟨ds, hf, ec, g⟩ := noEx_ok g
  have g2 : ds.length < sizeLine ∧ Out X W l τ φ1 χ1 H1 (.ok (.lst ds) hf) fun φ' χ' H' d h' => ∀ (v : V), RVf (E.comp e tg src c).fresh X.K H φ' χ' H' d v → Q v H' := by
    split at g
    · rename_i hl; exact ⟨hl, g⟩
    · exact g.elim
  obtain ⟨hl, g⟩ := g2
  intro Da hD
  generalize hF : itemK tg σ (isNo c) (evE l c) (evE l e) = F at ec
  refine ⟨fun i m H' => ∃ φ2 χ2 h2 acc vs rest, Ext φ1 χ1 H1 φ2 χ2 H' ∧ Da ∉ φ2 ∧ χ2 Da ∧ H' Da = some (.lst vs) ∧ HR X.K X.mg φ2 χ2 H' l h2 ∧ RVs X.K φ2 χ2 H' acc vs ∧ m = dw.1.length - i ∧ i ≤ dw.1.length ∧
    compL dw.2 F (dw.1.drop i) h2 = .ok rest hf ∧ acc ++ rest = ds, ⟨_, φ1, _, h1, [], [], ds, Ext.newL hD, (fun ha => by obtain ⟨u, q⟩ := hr1.heap ha; rw [hD] at q; cases q), .inr rfl, upd_same, hr1.newL hD, .nil, rfl, Nat.zero_le _, by simpa using ec, rfl⟩, ?_⟩
  rintro i m H' ⟨φ2, χ2, h2, acc, vs, rest, x2, d1, d2, d3, hr2, ra, rfl, hi, er, ea⟩
  by_cases hlt : i < dw.1.length
  · rw [List.drop_eq_getElem_cons hlt] at er
    obtain ⟨w, o1, h3, xs, e1, e2, e3⟩ := compL_cons er
    obtain ⟨k1, _⟩ := sj φ2 χ2 H' h2 x2 hr2 w
    obtain ⟨go, k2⟩ := k1 i _ (List.getElem?_eq_getElem hlt)
    refine .inr ⟨go, _, fun H' q => ⟨dw.1.length - (i + 1), by omega, q⟩, fun x H3 y => ?_⟩
    obtain ⟨x3, hr3, rv⟩ := k2 x H3 y
    rw [← hF] at e1
    simp only [itemK, bindT] at e1
    cases et : target h2 tg dw.1[i] (killAll σ tg) with
    | none => rw [et] at e1; cases e1
    | some σ3 =>
      rw [et] at e1
      simp only at e1
      have rs3 : RS X.K φ2 χ2 H3 (killAll σ tg) (L2.wipe τ tg) := ((rs.ext (x1.trans (x2.trans x3))).wipe tg)
      have d3' : H3 Da = some (.lst vs) := x3.kp _ _ d1 d3
      -- an item is taken up
      have took : ∀ (h2 : Hh) (σ2 : L2.St) (H4 : Hp) (φ4 : List Addr) (χ4 : Ads) (z : D) (h4 : Hh), RS X.K φ4 χ4 H4 σ3 σ2 → Ext φ2 χ2 H3 φ4 χ4 H4 → HR X.K X.mg φ4 χ4 H4 l h4 → (evE l e σ3 h4).bind (fun x h => R.ok (some x) h) = .ok o1 h3 →
          tM X WF l e σ2 H4 fun y H5 => ∃ acc, H5 Da = some (.lst acc) ∧ acc.length < sizeLine ∧ ∃ φ2 χ2 h2 acc' vs rest, Ext φ1 χ1 H1 φ2 χ2 (upd H5 Da (.lst (acc ++ [y]))) ∧ Da ∉ φ2 ∧ χ2 Da ∧ (upd H5 Da (.lst (acc ++ [y]))) Da = some (.lst vs) ∧ HR X.K X.mg φ2 χ2 (upd H5 Da (.lst (acc ++ [y]))) l h2 ∧ RVs X.K φ2 χ2 (upd H5 Da (.lst (acc ++ [y]))) acc' vs ∧
            dw.1.length - (i + 1) = dw.1.length - (i + 1) ∧ i + 1 ≤ dw.1.length ∧ compL dw.2 F (dw.1.drop (i + 1)) h2 = .ok rest hf ∧ acc' ++ rest = ds := by
        intro _ σ2 H4 φ4 χ4 z h4 rs4 x4 hr4 ee
        cases ev : evE l e σ3 h4 with
        | bad => rw [ev] at ee; cases ee
        | ex c fs h' => rw [ev] at ee; cases ee
        | ok y h5 =>
          rw [ev] at ee
          simp only [R.bind_ok] at ee
          cases ee
          refine tM.to rs4 hr4 ?_
          rw [ev]
          intro φ5 χ5 H5 x5 hr5 _ _ v rv5
          have d3'' : H4 Da = some (.lst vs) := x4.kp _ _ d1 d3'
          have n4 : Da ∉ φ4 := fun ha => by have := x4.fr Da ha d1; rw [d3'] at this; cases this
          have d5 : H5 Da = some (.lst vs) := x5.kp _ _ n4 d3''
          have n5 : Da ∉ φ5 := fun ha => by have := x5.fr Da ha n4; rw [d3''] at this; cases this
          have c5 : χ5 Da := x5.sub _ (x4.sub _ d2)
          obtain ⟨xw, hr6⟩ := wr_apart (ws := vs ++ [v]) hr5 c5 n5 d5
          refine ⟨vs, d5, ?_, φ5, χ5, h3, acc ++ [y], vs ++ [v], xs, (x2.trans (x3.trans (x4.trans x5))).wr_new hD, n5, c5, upd_same, hr6, (((ra.ext x3).ext (x4.trans x5)).append (.cons rv5 .nil)).extW xw, rfl, hlt, e2, ?_⟩
          · have := congrArg List.length ea
            rw [List.length_append] at this
            have e4 := ra.length
            omega
          · rw [← ea, e3, List.append_assoc]; rfl
      refine tgM_runW (h := h2) rs3 rv et fun τ3 rs4 ew => ⟨ew.trans wipe_idem, ?_⟩
      unfold tcM
      by_cases hno : isNo c = true
      · rw [if_pos hno] at e1 ⊢
        show tM X WF l e τ3 H3 _
        exact took h2 τ3 H3 φ2 χ2 (.non) h2 rs4 .refl hr3 e1
      · rw [if_neg hno] at e1 ⊢
        cases ev : evE l c σ3 h2 with
        | bad => rw [ev] at e1; cases e1
        | ex c fs h' => rw [ev] at e1; cases e1
        | ok b h4 =>
          rw [ev] at e1
          simp only [R.bind_ok, boolV] at e1
          refine tMt.of rs4 hr3 ?_
          rw [ev]
          intro φ4 χ4 H4 x4 hr4
          cases b with
          | bl k =>
            refine ⟨k, rfl, fun _ => ?_⟩
            cases k with
            | true => exact took h2 τ3 H4 φ4 χ4 .non _ (rs4.ext x4) x4 hr4 e1
            | false =>
              have e1 : R.ok none h4 = R.ok o1 h3 := e1
              cases e1
              refine ⟨φ4, χ4, _, acc, vs, xs, x2.trans (x3.trans x4), fun ha => ?_, x4.sub _ d2, x4.kp _ _ d1 d3', hr4, (ra.ext x3).ext x4, rfl, hlt, e2, by rw [← ea, e3]⟩
              have := x4.fr Da ha d1
              rw [d3'] at this; cases this
          | _ => cases e1
  · have ei : i = dw.1.length := by omega
    subst ei
    rw [List.drop_length] at er
    obtain ⟨w, rfl, rfl⟩ := compL_nil er
    obtain ⟨_, k2⟩ := sj φ2 χ2 H' hf x2 hr2 w
    rw [List.append_nil] at ea
    subst ea
    exact .inl ⟨k2, g _ _ _ x2 hr2 _ (.new rfl d2 d1 (x1.back hr1 hr hD) d3 ra)⟩
theorem m_comp {elt tgx iter : Expr} {ifs : List Expr} {scope : Scope} {own : List (Str × Nat)} {pos : Pos} {e c : E} {tg : List Nat} {src : Mp.It} (hc : X.calm = true) (hN : X.N.Nodup) (hi : PI X tgx iter (iM X W l src)) (ok : BlkOk X.N X.env.scope scope own) (ho : own.map (·.2) = tg)
    (hg : ∀ (s : Shared) (H : Hp) (C : Addr) (cl : List (Str × Addr)) (fp : List Addr), PG (X.blk s H scope (compEnvC scope cl C X.env) fp) tgx (tgM X.K tg)) (ht : ∀ (s : Shared) (H : Hp) (C : Addr) (cl : List (Str × Addr)) (fp : List Addr), PTs (X.blk s H scope (compEnvC scope cl C X.env) fp) ifs (tcM X l c))
    (he : ∀ (s : Shared) (H : Hp) (C : Addr) (cl : List (Str × Addr)) (fp : List Addr), PE (X.blk s H scope (compEnvC scope cl C X.env) fp) elt (tM X WF l e)) (hs : ∀ x, foldedSetIterable iter X.env x = pure x) :
    PE X (.ListComp elt [⟨tgx, iter, ifs, 0⟩] scope pos) (tM X W l (.comp e tg src c)) :=
  peImp (pe_lc hc hN hi ok hg ht he hs) fun τ H Q q => by rw [ho]; exact comp_run q
theorem m_setComp {i : Nat} {y : Str} {py : Pos} {elt tgx iter : Expr} {ifs : List Expr} {scope : Scope} {own : List (Str × Nat)} {pos spos : Pos} {e c : E} {tg : List Nat} {src : Mp.It} (hc : X.calm = true) (hN : X.N.Nodup) (hy : X.N[i]? = some y) (hyl : X.env.scope.names.lookup y = some .local)
    (hsw : swapsWith (.ListComp elt [⟨tgx, iter, ifs, 0⟩] scope pos) (some (.Name y py)) spos.line X.env = pure true) (hi : PI X tgx iter (iM X W l src)) (ok : BlkOk X.N X.env.scope scope own) (ho : own.map (·.2) = tg)
    (hg : ∀ (s : Shared) (H : Hp) (C : Addr) (cl : List (Str × Addr)) (fp : List Addr), PG (X.blk s H scope (compEnvC scope cl C X.env) fp) tgx (tgM X.K tg)) (ht : ∀ (s : Shared) (H : Hp) (C : Addr) (cl : List (Str × Addr)) (fp : List Addr), PTs (X.blk s H scope (compEnvC scope cl C X.env) fp) ifs (tcM X l c))
    (he : ∀ (s : Shared) (H : Hp) (C : Addr) (cl : List (Str × Addr)) (fp : List Addr), PE (X.blk s H scope (compEnvC scope cl C X.env) fp) elt (tM X WF l e)) (hs : ∀ x, foldedSetIterable iter X.env x = pure x) :
    PS X (.Assign [.Name y py] (.ListComp elt [⟨tgx, iter, ifs, 0⟩] scope pos) spos) (tMS X W l (.set i (.comp e tg src c))) :=
  psImp (ps_setLc hc hN hy hyl hsw hi ok hg ht he hs) fun D τ H ⟨φ, χ, σ, h, rs, hr, o⟩ => by
    unfold exS at o
    rw [ho]
    exact comp_run (tM.st rs hr o fun φ' χ' H' d h' v x hr' rv rs' g => g.nx hr' (rs'.set i rv))
end
end Mp

set_option maxRecDepth 100000
/-! Mp3d: enumerate and zip, over lists and over tuples. -/
namespace Mp
open PySem PySem.Spec PyProof.Rows L2

/-! ### enumerate(tuple) -/
set_option maxHeartbeats 1000000 in
/-- enumerate(v) by what begins -/
theorem enum_made {v : Value} {o : Obj} {Hb : Heap → Prop} (B : Begins v o Hb) : Meets (Builtin.«enumerate.__new__» ⟨[.type "enumerate", v], []⟩) (fun _ R s => Hb s.heap ∧
    R (.ok (.ret (.ref (s.heap.push o).objs.size))) { s with heap := (s.heap.push o).push { cls := .type "enumerate", data := .fields #[.none, .bool false, .ref s.heap.objs.size, rawInt 0, .none, .none] } }) :=
  .of_wp fun prog w A R s hyp => by
    obtain ⟨hp, g, d, tk, os⟩ := s
    obtain ⟨hb, hR⟩ := hyp
    have isEnum := sub_enumerate
    have starts : ∀ {A' : Around} {E : Value → Shared → Prop} {Q : Value → Shared → Prop}, Q (.ref hp.objs.size) ⟨hp.push o, g, d, tk, os⟩ → wpAny (model prog w) A' (pyIter v) Q E ⟨hp, g, d, tk, os⟩ := fun q => B.iter prog w _ _ ⟨hp, g, d, tk, os⟩ _ hb q
    wp_walk using starts
    refine wpAny_stack_any fun st => wpAny_pure ?_
    split
    · rename_i c _ _ _ _ _
      cases (c == Value.type "enumerate") <;> (wp_walk using starts; exact ⟨_, rfl, hR⟩)
    · wp_walk using starts
      exact ⟨_, rfl, hR⟩
theorem enum_call {prog : Program} {w : World} {A : Around} {E : Value → Shared → Prop} {s : Shared} {v : Value} {o : Obj} {Hb : Heap → Prop} {Q : Value → Shared → Prop} (B : Begins v o Hb) (hb : Hb s.heap)
    (k : ∀ h', IsEnum h' (s.heap.objs.size + 1) s.heap.objs.size 0 .none → h'.get? s.heap.objs.size = some o → (∀ b u, s.heap.get? b = some u → h'.get? b = some u) → Q (.ref (s.heap.objs.size + 1)) { s with heap := h' }) : wpAny (model prog w) A (call (.type "enumerate") [v]) Q E s := by
  refine callType_new F.called_enumerate (by decide) (F.typeCall_enumerate_1 _) (F.newCall_enumerate_1 _) (fun x => F.args_object_init_2 x _) F.entry_enumerate_new (enum_made B) ⟨hb, ?_⟩
  have size1 : (s.heap.push o).objs.size = s.heap.objs.size + 1 := Heap.size_push ..
  have made := Heap.get?_push_size (s.heap.push o) (o := { cls := .type "enumerate", data := .fields #[.none, .bool false, .ref s.heap.objs.size, rawInt 0, .none, .none] }) rfl
  rw [size1] at made
  show _ ∧ _
  rw [size1]
  exact ⟨⟨_, made, rfl⟩, k _ made (Heap.get?_push_of_some _ (Heap.get?_push_size _ B.free)) fun b u q => Heap.get?_push_of_some _ (Heap.get?_push_of_some _ q)⟩
theorem enumT_end {prog : Program} {w : World} {A : Around} {E : Value → Shared → Prop} {s : Shared} {e it t : Addr} {j : Int} {k : Nat} {items : Array Value} {old : Value} {Q : Option Value → Shared → Prop} (hh : A.handled = none)
    (he : IsEnum s.heap e it j old) (hit : s.heap.IsTupleIter it t k) (ht : s.heap.IsTuple t items) (hx : items[k]? = none) (hQ : ∀ h', Heap.ExtBut it s.heap h' → Q none { s with heap := h' }) : wpAny (model prog w) A (pyNext (.ref e)) Q E s := by
  unfold pyNext
  refine wpAny_bind (wpAny_attempt (wpAny_callSpecial?_slot (name := Str.ofString "__next__") (T := "enumerate") ⟨_, he, rfl⟩ F.slot_enumerate_next ?_))
  refine wpAny_call_entry F.slot_enumerate_next ⟨_, he, rfl⟩ F.entry_enumerate_next ?_ (F.args_enumerate_next_1 _)
  show wpAny _ _ (field (.ref e) 2 >>= _) _ _ _
  refine wpAny_bind (wpAny_field he rfl (x := .ref it) rfl (wpAny_bind (wpAny_nextOf_tuple_end (show A.in1.handled = none from hh) hit ht hx fun h' x he' ⟨o, ho, hc⟩ => ?_)))
  exact wpAny_bind (wpAny_isInstance (T := "StopIteration") (b := true) ⟨o, ho, hc⟩ isSubtype_stop (wpAny_pure (hQ _ he')))
/-- the tuple at a, each item in a new pair -/
def IteT (K : PySem.W.Frag) (a : Addr) : L2.It :=
  ⟨fun i H => ∃ (xs : List V) (x : V), SqT K H a xs ∧ xs[i]? = some x,
    fun i H v H' => ∃ T x, v = .ref T ∧ H T = none ∧ H' = upd H T (.tup [.int (i : Nat), x]) ∧ ∀ xs, SqT K H a xs → xs[i]? = some x,
    fun i H => ∃ xs : List V, SqT K H a xs ∧ xs.length ≤ i⟩
theorem turn_et {P : Program} {w : World} {K : PySem.W.Frag} {elts : List Expr} {kk : Nat} {tpos : Pos} (a e it : Addr) :
    Turn P w K (.Tuple elts kk tpos) (IteT K a) [e, it] e (fun i h => (∃ old, IsEnum h e it ((i : Nat) : Int) old) ∧ h.IsTupleIter it a i ∧ e ≠ it ∧ a ≠ it ∧ e ≠ a) where
  mem := by simp
  obj := by
    rintro i h ⟨⟨old, he⟩, ⟨o, ho, hc, hd⟩, _⟩ b hb
    rcases (show b = e ∨ b = it by simpa using hb) with rfl | rfl
    · exact ⟨_, he, fun v q => nomatch q⟩
    · exact ⟨o, ho, fun v q => by rw [hd] at q; cases q⟩
  keep := fun i h h' ⟨⟨old, he⟩, hi, n1, n2, n3⟩ k => ⟨⟨old, k e (by simp) _ he⟩, hi.at fun o q => k it (by simp) o q, n1, n2, n3⟩
  item := by
    intro X hP hw hK hc i pins s σ H E I hf st hg
    subst hP hw hK
    obtain ⟨⟨old, he⟩, hit, n1, n2, n3⟩ := st
    obtain ⟨xs, x, hq, hx⟩ := hg
    obtain ⟨its, rv, p, hz⟩ := I.tuple hq
    obtain ⟨u, hu, ru⟩ := rv.get hx
    have hel : e < s.heap.objs.size := Heap.lt_size he
    have hil : it < s.heap.objs.size := by obtain ⟨_, q, _⟩ := id hit; exact Heap.lt_size q
    have p : s.heap.IsTuple a its.toArray := p
    refine wpAny_pyNext_enum_itemD (Draws.tuple (A := X.A.in1) (show X.A.in1.handled = none from I.ok.hd hc) it a n2 its.toArray) he ⟨hit, p⟩ (List.getElem?_eq_some_iff.mp hu).1 n1 (by simp [n1, n3]) fun y h' tk py ho st' hT hsz hk => ?_
    have ey : y = u := by
      have : its[i]? = some y := by simpa using py
      rw [hu] at this; cases this; rfl
    subst ey
    refine ⟨_, rfl, wpAny_letOwnedTupleGo_enum (s := { s with heap := h', toks := tk + 1 }) ho fun h'' he' sb => ?_⟩
    have hT2 : h''.get? s.heap.objs.size = some { cls := .type "tuple", data := .seq #[.int i tk, y] } := (sb.2 _ (Nat.ne_of_gt hel)).trans hT
    have new : ObjOk X.prog X.w (upd H s.heap.objs.size (.tup [.int (i : Nat), x])) h'' s.heap.objs.size (.tup [.int (i : Nat), x]) := ⟨by show 2 ≤ sizeLine; decide, [.int i tk, y], .cons ⟨_, rfl⟩ (.cons ru .nil), ⟨_, hT2, rfl, _, rfl⟩⟩
    have I1 : Inv X pins σ (upd H s.heap.objs.size (.tup [.int (i : Nat), x])) { s with heap := h'', toks := tk + 1 } :=
      I.turnedNew (ch := [e, it]) (fun b ob hb q => (sb.2 b (fun z => hb (by simp [z]))).trans (hk b ob (fun z => hb (by simp [z])) (fun z => hb (by simp [z])) q)) hf (Nat.le_refl _) new
    refine ⟨.ref s.heap.objs.size, _, I1, rfl, ⟨_, x, rfl, I.hok.fresh (Nat.le_refl _), rfl, fun ys hy => by rw [I.tuple_inj hy hq]; exact hx⟩, ⟨⟨y, ?_⟩, st'.1.at fun o q => (sb.2 it (Ne.symm n1)).trans q, n1, n2, n3⟩, fun b hb => ?_⟩
    · have e1 : ((i + 1 : Nat) : Int) = (i : Int) + 1 := by omega
      rw [e1]; exact he'
    · have hb' : b < s.heap.objs.size := by
        rcases (show b = e ∨ b = it by simpa using hb) with rfl | rfl
        · exact hel
        · exact hil
      rw [upd_ne (Nat.ne_of_lt hb')]
      exact (hf b hb).1
  done := by
    intro X hP hw hK hc i pins s σ H E I hf st hg
    subst hP hw hK
    obtain ⟨⟨old, he⟩, hit, n1, n2, n3⟩ := st
    obtain ⟨xs, hq, hx⟩ := hg
    obtain ⟨its, rv, p, hz⟩ := I.tuple hq
    obtain ⟨f0, f1, f2, f3, f4, f5⟩ := hf it (by simp)
    have hl := rv.length
    exact enumT_end (I.ok.hd hc) he hit (show s.heap.IsTuple a its.toArray from p) (by simp; omega) fun h' eb => ⟨rfl, I.turned (t' := s.toks) (fun b o hb q => eb b o hb q) f0 f1 f3 f4 f5⟩
  self := fun A i s Q E ⟨⟨_, he⟩, _⟩ h => wpAny_pyIter_enum he h
section
variable {X : Cx} {W : WX} {l : List Nat} {τ : L2.St} {φ φ' φ1 : List Addr} {χ χ' χ1 : Ads} {H H' H1 H0 : Hp} {h h' : Hh} {K : PySem.W.Frag}
def iEnumA (K : PySem.W.Frag) (tl : TE) : TI := fun σ H R => tl σ H fun x H1 => ∃ a t xs, x = .ref a ∧ Sq K t H1 a xs ∧ R (if t = true then IteT K a else Ite K a) H1
theorem pi_enumA {e : Expr} {te : TE} {p pos tpos : Pos} {elts : List Expr} {kk : Nat} (hg : Gl X "enumerate") (hm : X.mg "enumerate" = none) (he : PE X e te) (hs : starEach [e] X.env = (false, eval e X.env) :: starEach [] X.env) :
    PI X (.Tuple elts kk tpos) (.Call (.Name "enumerate" p) [e] [] pos) (iEnumA X.K te) := by
  refine ⟨fun pins s σ H R I h => ?_⟩
  refine Call_ (ld_blt I hg hm boot_enumerate (PyProof.Rows.callWith_type1 (PyProof.Rows.args_cons (thn (he.run pins s σ H _ I h) fun v s1 ⟨x, H1, I1, r1, a, t, xs, ex, hq, q⟩ => PyProof.Rows.args_nil ?_) hs) hs rfl))
  subst ex
  cases r1
  have two : ∀ b ∈ [s1.heap.objs.size + 1, s1.heap.objs.size], FpOk X pins H1 b := fun b hb => by
    have hle : s1.heap.objs.size ≤ b := by
      rcases (show b = s1.heap.objs.size + 1 ∨ b = s1.heap.objs.size by simpa using hb) with rfl | rfl
      · exact Nat.le_add_right _ _
      · exact Nat.le_refl _
    exact I1.fpOk hle (I1.hok.fresh hle)
  cases t with
  | false =>
    obtain ⟨its, rv, p', hz⟩ := I1.list (show SqL X.K H1 a xs from hq)
    refine call_enumerate_list p'.isList fun h' e1 it1 _ k => wpAny_pyIter_enum e1 ?_
    exact ⟨s1.heap.objs.size + 1, [s1.heap.objs.size + 1, s1.heap.objs.size], _, _, H1, rfl, I1.kept (t' := s1.toks) k, turn_enum a (s1.heap.objs.size + 1) s1.heap.objs.size, ⟨⟨.none, e1⟩, it1, Nat.succ_ne_self _⟩, two, q⟩
  | true =>
    obtain ⟨its, rv, p', hz⟩ := I1.tuple (show SqT X.K H1 a xs from hq)
    have p' : s1.heap.IsTuple a its.toArray := p'
    obtain ⟨oa, ha, _⟩ := id p'
    have la := Heap.lt_size ha
    refine enum_call (begins_tuple a its.toArray) p' fun h' e1 o1 k => wpAny_pyIter_enum e1 ?_
    exact ⟨s1.heap.objs.size + 1, [s1.heap.objs.size + 1, s1.heap.objs.size], _, _, H1, rfl, I1.kept (t' := s1.toks) k, turn_et a (s1.heap.objs.size + 1) s1.heap.objs.size, ⟨⟨.none, e1⟩, ⟨_, o1, rfl, rfl⟩, Nat.succ_ne_self _, Nat.ne_of_lt la, Nat.ne_of_gt (Nat.lt_succ_of_lt la)⟩, two, q⟩
theorem enum_get {ds : List D} {i : Nat} {d : D} (e : (enumD ds)[i]? = some d) : ∃ x, ds[i]? = some x ∧ d = .tup [.int i, x] := by
  unfold enumD at e
  rw [List.getElem?_map] at e
  obtain ⟨p, e1, rfl⟩ := Option.map_eq_some_iff.mp e
  rw [List.getElem?_zip_eq_some] at e1
  obtain ⟨h1, h2⟩ := e1
  obtain ⟨hl, q⟩ := List.getElem?_eq_some_iff.mp h1
  simp at q
  exact ⟨p.2, h2, by rw [q]⟩
theorem enum_len {ds : List D} : (enumD ds).length = ds.length := by unfold enumD; simp
/-- a new pair comes -/
theorem pair_new {H : Hp} {T : Addr} {c d : D} {x y : V} (hr : HR X.K X.mg φ χ H l h) (hn : H T = none) (rc : RV X.K φ χ H c x) (rd : RV X.K φ χ H d y) :
    Ext φ χ H φ χ (upd H T (.tup [x, y])) ∧ HR X.K X.mg φ χ (upd H T (.tup [x, y])) l h ∧ RV X.K φ χ (upd H T (.tup [x, y])) (.tup [c, d]) (.ref T) :=
  ⟨.newT hn, hr.newT hn, .tup (.inl upd_same) (.cons (rc.ext (.newT hn)) (.cons (rd.ext (.newT hn)) .nil))⟩
theorem SrcA.enum {dw : List D × Wt} {t : Bool} {a : Addr} (s : SrcA X l φ χ H dw t a) : SrcJ X l φ χ H (enumD dw.1, dw.2) (if t = true then IteT X.K a else Ite X.K a) := by
  intro φ2 χ2 H2 h2 x hr2 w
  obtain ⟨vs, q, rvs⟩ := s φ2 χ2 H2 h2 x hr2 w
  have hl := rvs.length
  cases t with
  | false =>
    refine ⟨fun i d e => ?_, ⟨vs, q, by rw [enum_len, hl]; exact Nat.le_refl _⟩⟩
    obtain ⟨y, e1, rfl⟩ := enum_get e
    obtain ⟨v, e2, rv⟩ := rvs.get e1
    refine ⟨⟨vs, v, q, e2⟩, fun z H3 ⟨T, u, ez, hn, eh, k⟩ => ?_⟩
    subst ez eh
    exact pair_new hr2 hn (.int _) (rvs.get' (k vs q) e1)
  | true =>
    refine ⟨fun i d e => ?_, ⟨vs, q, by rw [enum_len, hl]; exact Nat.le_refl _⟩⟩
    obtain ⟨y, e1, rfl⟩ := enum_get e
    obtain ⟨v, e2, rv⟩ := rvs.get e1
    refine ⟨⟨vs, v, q, e2⟩, fun z H3 ⟨T, u, ez, hn, eh, k⟩ => ?_⟩
    subst ez eh
    exact pair_new hr2 hn (.int _) (rvs.get' (k vs q) e1)
theorem m_srcEnum {a : Expr} {ea : E} {elts : List Expr} {kk : Nat} {tpos p pos : Pos} (hg : Gl X "enumerate") (hm : X.mg "enumerate" = none) (ha : PE X a (tM X W l ea)) (hs : starEach [a] X.env = (false, eval a X.env) :: starEach [] X.env) :
    PI X (.Tuple elts kk tpos) (.Call (.Name "enumerate" p) [a] [] pos) (iM X W l (.enum ea)) :=
  piImp (pi_enumA hg hm ha hs) fun τ H Rr ⟨φ, χ, σ, h, rs, hr, o⟩ => by
    unfold evI at o
    refine tM.to rs hr (o.bind.mono fun φ1 χ1 H1 d1 h1 _ x1 _ g1 _ hr1 v1 rv1 => ?_)
    cases e : srcOf h1 d1 with
    | none => rw [e] at g1; exact g1.elim
    | some dw =>
      rw [e] at g1
      have g : Out X W l τ φ1 χ1 H1 (R.ok (enumD dw.1, dw.2) h1) _ := g1
      obtain ⟨a, t, rfl, s, _⟩ := rv1.src hr1 e
      obtain ⟨vs, q, _⟩ := s _ _ _ _ .refl hr1 (watch_now e)
      exact ⟨a, t, vs, rfl, q, g _ _ _ .refl hr1 _ s.enum⟩

/-! ### zip -/
theorem zip_get {ds es : List D} {i : Nat} {d : D} (e : (zipD ds es)[i]? = some d) : ∃ x y, ds[i]? = some x ∧ es[i]? = some y ∧ d = .tup [x, y] := by
  unfold zipD at e
  rw [List.getElem?_map] at e
  obtain ⟨p, e1, rfl⟩ := Option.map_eq_some_iff.mp e
  rw [List.getElem?_zip_eq_some] at e1
  exact ⟨p.1, p.2, e1.1, e1.2, rfl⟩
theorem zip_len {ds es : List D} : (zipD ds es).length = min ds.length es.length := by unfold zipD; simp
theorem SrcA.zip {dw ew : List D × Wt} {t : Bool} {a b : Addr} (s : SrcA X l φ χ H dw t a) (r : SrcA X l φ χ H ew t b) : SrcJ X l φ χ H (zipD dw.1 ew.1, dw.2 ++ ew.2) (if t = true then RZ.ItzT X.K a b else Itz X.K a b) := by
  intro φ2 χ2 H2 h2 x hr2 w
  obtain ⟨vs, q, rvs⟩ := s φ2 χ2 H2 h2 x hr2 (fun p hp => w p (List.mem_append_left _ hp))
  obtain ⟨us, q', rus⟩ := r φ2 χ2 H2 h2 x hr2 (fun p hp => w p (List.mem_append_right _ hp))
  have hl := rvs.length
  have hl' := rus.length
  cases t with
  | false =>
    refine ⟨fun i d e => ?_, ⟨vs, us, q, q', by rw [zip_len, hl, hl']; omega⟩⟩
    obtain ⟨y, z, e1, e1', rfl⟩ := zip_get e
    obtain ⟨v, e2, rv⟩ := rvs.get e1
    obtain ⟨u, e2', ru⟩ := rus.get e1'
    refine ⟨⟨vs, us, v, u, q, q', e2, e2'⟩, fun z' H3 ⟨T, c, d, ez, hn, eh, k, k'⟩ => ?_⟩
    subst ez eh
    exact pair_new hr2 hn (rvs.get' (k vs q) e1) (rus.get' (k' us q') e1')
  | true =>
    refine ⟨fun i d e => ?_, ⟨vs, us, q, q', by rw [zip_len, hl, hl']; omega⟩⟩
    obtain ⟨y, z, e1, e1', rfl⟩ := zip_get e
    obtain ⟨v, e2, rv⟩ := rvs.get e1
    obtain ⟨u, e2', ru⟩ := rus.get e1'
    refine ⟨⟨vs, us, v, u, q, q', e2, e2'⟩, fun z' H3 ⟨T, c, d, ez, hn, eh, k, k'⟩ => ?_⟩
    subst ez eh
    exact pair_new hr2 hn (rvs.get' (k vs q) e1) (rus.get' (k' us q') e1')
theorem m_srcZip {a b : Expr} {ea eb : E} {elts : List Expr} {kk : Nat} {tpos p pos : Pos} (hg : Gl X "zip") (hm : X.mg "zip" = none) (ha : PE X a (tM X W l ea)) (hb : PE X b (tM X W l eb)) (hs : starEach [a, b] X.env = (false, eval a X.env) :: starEach [b] X.env)
    (hs2 : starEach [b] X.env = (false, eval b X.env) :: starEach [] X.env) (hpl : (backTo pos (starEach [b] X.env)).any (·.1) = false) : PI X (.Tuple elts kk tpos) (.Call (.Name "zip" p) [a, b] [] pos) (iM X W l (.zip ea eb)) :=
  piImp (RZ.pi_zipA hg hm (pa_cons ha (pa_cons hb pa_nil hs2) hs) hs hpl) fun τ H Rr ⟨φ, χ, σ, h, rs, hr, o⟩ => by
    unfold evI at o
    refine tM.to rs hr (o.bind.mono fun φ1 χ1 H1 d1 h1 _ x1 _ g1 _ hr1 v1 rv1 => ?_)
    refine tM.to (rs.ext x1) hr1 (g1.bind.mono fun φ2 χ2 H2 d2 h2 _ x2 _ g2 _ hr2 v2 rv2 => ?_)
    split at g2
    · rename_i et
      cases e : srcOf h2 d1 with
      | none => rw [e] at g2; exact g2.elim
      | some dw =>
        cases e' : srcOf h2 d2 with
        | none => simp only [e, e', someV, R.bind_ok, R.bind_bad] at g2; exact g2.elim
        | some ew =>
          simp only [e, e', someV, R.bind_ok] at g2
          have g : Out X W l τ φ2 χ2 H2 (R.ok (zipD dw.1 ew.1, dw.2 ++ ew.2) h2) _ := g2
          obtain ⟨a, t, rfl, s, ht⟩ := (rv1.ext x2).src hr2 e
          obtain ⟨b, t', rfl, s', ht'⟩ := rv2.src hr2 e'
          have tt : t' = t := by rw [ht', ht, et]
          subst tt
          obtain ⟨vs, q, _⟩ := s _ _ _ _ .refl hr2 (watch_now e)
          obtain ⟨us, q', _⟩ := s' _ _ _ _ .refl hr2 (watch_now e')
          have k := g _ _ _ .refl hr2 _ (s.zip s')
          cases t' with
          | false => exact ⟨a, b, vs, us, rfl, .inl ⟨q, q', k⟩⟩
          | true => exact ⟨a, b, vs, us, rfl, .inr ⟨q, q', k⟩⟩
    · exact g2.elim
end
end Mp

set_option maxRecDepth 100000
set_option maxHeartbeats 1000000
/-! Mp3e: raise. -/
namespace Mp
open PySem PySem.Spec PyProof.Rows L2

theorem ExAt.oex {K : PySem.W.Frag} {c : String} {C : Addr} (x : ExAt K c C) : OexC K C := by
  obtain ⟨q, N, bs, bm, sn, sub, ab, col, dd, k0, k1, k2, k3, k5, h, hb⟩ := x.lk
  refine ⟨⟨_, q, N, bs, bm, sn, sub, ab, col, dd, k0, k1, k2, k3, k5, h, ?_⟩, x.sa, x.base, x.ty, x.kp⟩
  rcases hb with ⟨_, rfl⟩ | ⟨_, CP, _, rfl⟩
  · decide +kernel
  · have : PySem.HandSPX.refsVE PySem.HandSPX.veTail = true := by decide +kernel
    exact this
/-- what __init__ does to a new refusal -/
def spInit (c : String) (C : Addr) : Sp := fun vs H Q _ => ∃ (a : Addr) (ys : List V), vs = .ref a :: ys ∧ ys.length = (excF c).length ∧ H a = some (exo a C none) ∧
  ∀ (H2 : Hp) (d : Addr), H d = none → d ≠ a → H2 a = some (exo a C (some d)) → H2 d = some (exd d (xdl c ys)) → (∀ b, b ≠ a → b ≠ d → H2 b = H b) → Q .non H2
/-- a refusal that may be made -/
structure RzOk (P : Program) (w : World) (K : PySem.W.Frag) (mg : Str → Option Value) (base : Heap) (k : Nat) (c : String) : Prop where
  ex : ∃ C, ExAt K c C ∧ c ≠ "PaceError" ∧ mg (Str.ofString c) = some (.ref C) ∧
    ((excF c = [] ∧ PySem.W.excIn K C PySem.HandSPX.veTail "ValueError.__new__" = true) ∨
      ∃ (f : Addr) (fd : FuncData) (ps : List Str), excF c ≠ [] ∧ PySem.W.findIn K (.ref C) "__init__" = some (some (.ref f)) ∧ PySem.W.typeIn K (.ref f) = some (.type "function") ∧ FnOk P w K mg base (L2.CX P w) k f fd ps (spInit c C) ∧ Binds K fd ps [])
section
variable {X : Cx} {W : WX} {l : List Nat} {k : Nat}
theorem m_raise0 {c : String} {m : Str} {j : Nat} {p p2 pos pos' : Pos} (hc : X.calm = true) (tk : Takes X W) (z : RzOk X.prog X.w X.K X.mg X.base k c) (he : excF c = []) (hg : Gl X (Str.ofString c)) (hd : (Str.ofString c == ("__debug__" : Str)) = false) :
    PS X (.Raise (some (.Call (.Name (Str.ofString c) p) [.Constant (.str m) j p2] [] pos)) none pos') (tMS X W l (.raise c .nil)) := by
  obtain ⟨C, x, n, hm, q⟩ := z.ex
  rcases q with ⟨_, q⟩ | ⟨_, _, _, q, _⟩
  · refine psImp (ps_raise hc tk (pmk_own PySem.F.excBase_ValueError q hm x.kp (raises_own x.base x.ty) hg hd)) fun D τ H ⟨φ, χ, σ, h, rs, hr, o⟩ => ?_
    unfold exS evL at o
    rw [stE_ok, he] at o
    exact o φ χ H .refl hr τ _ none rs ⟨⟨C, x, n, rfl⟩, .inl ⟨rfl, rfl⟩⟩
  · exact absurd he q
theorem m_raise1 {c : String} {e : Expr} {as : List Expr} {es : EL} {p pos pos' : Pos} (hc : X.calm = true) (tk : Takes X W) (z : RzOk X.prog X.w X.K X.mg X.base k c) (he : excF c ≠ []) (room : Room (k + 1) X.A) (hg : Gl X (Str.ofString c)) (hd : (Str.ofString c == ("__debug__" : Str)) = false)
    (ha : PA X (e :: as) (tMs X W l es)) (hst : starEach (e :: as) X.env = (false, eval e X.env) :: starEach as X.env) (hpl : (backTo pos (starEach as X.env)).any (·.1) = false) :
    PS X (.Raise (some (.Call (.Name (Str.ofString c) p) (e :: as) [] pos)) none pos') (tMS X W l (.raise c es)) := by
  obtain ⟨C, x, n, hm, q⟩ := z.ex
  rcases q with ⟨q, _⟩ | ⟨f, fd, ps, _, q1, q2, F, b⟩
  · exact absurd q he
  · refine psImp (ps_raise hc tk (pmk_oex (dvs := []) x.oex q1 q2 F room b .nil passL hg hm ha hd hst hpl)) fun D τ H ⟨φ, χ, σ, h, rs, hr, o⟩ => ?_
    unfold exS at o
    refine tMs.of rs hr ((stE_out rs o).mono fun φ1 χ1 H1 ds h1 _ x1 _ g _ hr1 vs rvs => ?_)
    split at g
    · rename_i hl
      have hlv : vs.length = (excF c).length := by rw [← rvs.length, hl]
      have few : (excF c).length ≤ 2 := by unfold excF; split <;> decide
      refine ⟨by omega, fun a ha => ⟨a, vs, by simp, hlv, upd_same, fun H2 d hd hda ea ed rest => ⟨rfl, d, xdl c vs, ea, ed, ?_, ?_⟩⟩⟩
      · rw [upd_ne hda] at hd; exact hd
      · rw [upd_ne hda] at hd
        have hH : upd (del H2 a) d (.xd (xdl c vs)) = upd H1 d (.xd (xdl c vs)) := by
          funext b
          by_cases hb : b = d
          · rw [hb, upd_same, upd_same]
          · rw [upd_ne hb, upd_ne hb]
            by_cases hba : b = a
            · rw [hba, del_same, ha]
            · rw [del_ne hba, rest b hba hb, upd_ne hba]
        rw [hH]
        have nc : ¬ χ1 d := fun q => hr1.ch d q hd
        have ne : ∀ {b : Addr} {o : HO}, H1 b = some o → b ≠ d := fun {b o} q => ne_of_none q hd
        have x2 : Ext φ1 χ1 H1 φ1 χ1 (upd H1 d (.xd (xdl c vs))) := by
          refine ⟨⟨⟨[], by simp⟩, fun _ q => q, fun _ q n => absurd q n, fun a o _ ho => ?_, fun a xs ho => ?_, fun a o xs ho => ?_⟩, fun a o _ ho => ?_, fun a q n => absurd q n⟩ <;> (rw [upd_ne (ne ho)]; exact ho)
        have hr2 : HR X.K X.mg φ1 χ1 (upd H1 d (.xd (xdl c vs))) l h1 := hr1.ext x2 (fun b hb => upd_ne (by obtain ⟨u, e⟩ := hr1.heap hb; exact ne e)) fun b q => by
          by_cases e : b = d
          · rw [e, upd_same]; simp
          · rw [upd_ne e]; exact hr1.ch b q
        exact g φ1 χ1 _ x2 hr2 τ _ (some d) ((rs.ext x1).ext x2) ⟨⟨C, x, n, rfl⟩, .inr ⟨d, vs, rfl, nc, upd_same, rvs.ext x2, hlv⟩⟩
    · exact g.elim
end

/-! ### the refusals' own __init__ -/
theorem call_line {o : Expr} {m : Str} {apos pos : Pos} {env : Env} {es : List Expr} (hb : attributeBase o m env (eval o env) = eval o env) (hf : methodCallForm (es.length + ([] : List Keyword).length) (backTo pos (starEach es env)) (backToKw pos (keywordEach [] env)) = true) (hl : (apos.endLine == pos.line) = true) :
    eval (.Call (.Attribute o m apos) es [] pos) env = (do
      let ov ← eval o env
      standAt apos.atName
      let (f, first) ← holding [ov] (getMethod ov m (plainOf o env))
      callWith pos f first (backTo pos (starEach es env)) (backToKw pos (keywordEach [] env))) := by
  rw [arm_eval_Call, hb]
  have e : ∀ ov, methodCall o m apos pos env ov (es.length + ([] : List Keyword).length) (backTo pos (starEach es env)) (backToKw pos (keywordEach [] env)) = _ := fun ov => mcall_line hf hl
  show (eval o env >>= fun ov => standAt apos.atName >>= fun _ => methodCall o m apos pos env ov (es.length + ([] : List Keyword).length) (backTo pos (starEach es env)) (backToKw pos (keywordEach [] env))) = _
  simp only [e]
/-- PaceError.__init__(self, ..) -/
theorem pe_pinit {X : Cx} {CP : Addr} {e : Expr} {es : List Expr} {ta : TA} {p1 p2 pos : Pos} {pl : Sem Bool} (hg : Gl X "PaceError") (hm : X.mg "PaceError" = some (.ref CP)) (hr : PySem.W.readsIn X.K CP (.type "type") = true)
    (hs : PySem.W.specialIn X.K (.ref CP) "__getattribute__" = some (some (.builtin "type.__getattribute__"))) (vV : PySem.W.findCls X.K (.ref CP) (.type "type") "__init__" = some (.val (.builtin "ValueError.__init__"))) (ha : PA X (e :: es) ta)
    (hc : eval (.Call (.Attribute (.Name "PaceError" p1) "__init__" p2) (e :: es) [] pos) X.env = (do
      let ov ← eval (.Name "PaceError" p1) X.env
      standAt p2.atName
      let (f, first) ← holding [ov] (getMethod ov "__init__" pl)
      callWith pos f first (backTo pos (starEach (e :: es) X.env)) (backToKw pos (keywordEach [] X.env))) := by rfl)
    (he : starEach (e :: es) X.env = (false, eval e X.env) :: starEach es X.env := by rfl) (hpl : (backTo pos (starEach es X.env)).any (·.1) = false := by rfl) :
    PE X (.Call (.Attribute (.Name "PaceError" p1) "__init__" p2) (e :: es) [] pos) (tVeI X.K ta) := by
  refine ⟨fun pins s σ H Q I h => ?_⟩
  refine PySem.W.methodCall_KW (ld_glob I hg hm ?_ (by decide +kernel)) hc
  refine PySem.W.method_cls I.kIn hs (PySem.W.cls_value I.kIn hr vV (by decide +kernel) ?_)
  show wpAny _ _ (callWith pos (Value.builtin "ValueError.__init__") [] (backTo pos (starEach (e :: es) X.env)) []) _ _ _
  refine PyProof.Rows.callWith_method1 (thn (ha.run pos pins _ σ H _ (I.tok _) h) fun us s1 ⟨vs, H1, I1, r1, a, C, ws, ev, hl, T, ea, q⟩ => ?_) he hpl
  subst ev
  cases r1 with
  | @cons _ u0 _ ur ra rw' =>
    obtain rfl : u0 = Value.ref a := ra
    have hlen : ur.length ≤ sizeLine := by
      rw [← Paired.length rw', sizeLine_eq]
      omega
    exact oinit_ok T I1 ea hlen fun s' J => ⟨.non, H1, J, rfl, q⟩
/-- the text of an __init__: the base's, then the fields -/
def initC (fs : List String) (st : Stmt) : Bool := match fs, defBody st with
  | [f], [.Expr (.Call (.Attribute (.Name b _) i ap) [.Name s1 _, .Constant (.str _) _ _] [] cp) _, .Assign [.Attribute (.Name s2 _) f1 _] (.Name v1 _) _] =>
    (ap.endLine == cp.line) && decide (b = "PaceError") && decide (i = "__init__") && decide (s1 = "self") && decide (s2 = "self") && decide (f1 = Str.ofString f) && decide (v1 = Str.ofString f)
  | [f, g], [.Expr (.Call (.Attribute (.Name b _) i ap) [.Name s1 _, .Constant (.str _) _ _] [] cp) _, .Assign [.Attribute (.Name s2 _) f1 _] (.Name v1 _) _, .Assign [.Attribute (.Name s3 _) f2 _] (.Name v2 _) _] =>
    (ap.endLine == cp.line) && decide (b = "PaceError") && decide (i = "__init__") && decide (s1 = "self") && decide (s2 = "self") && decide (f1 = Str.ofString f) && decide (v1 = Str.ofString f) && decide (s3 = "self") && decide (f2 = Str.ofString g) && decide (v2 = Str.ofString g)
  | _, _ => false
/-- the base, as its __init__ is found -/
structure PaceOk (K : PySem.W.Frag) (mg : Str → Option Value) : Prop where
  ex : ∃ CP, mg "PaceError" = some (.ref CP) ∧ PySem.W.readsIn K CP (.type "type") = true ∧ PySem.W.specialIn K (.ref CP) "__getattribute__" = some (some (.builtin "type.__getattribute__")) ∧
    PySem.W.findCls K (.ref CP) (.type "type") "__init__" = some (.val (.builtin "ValueError.__init__"))
theorem eqAll (a b : Nat) : True := trivial
section
variable {X : Cx} {D : Ends}
/-- self.f = f -/
theorem ps_field {f : Str} {i : Nat} {q1 q2 q3 q4 : Pos} (hN : X.N.Nodup) (h0 : X.N[0]? = some ("self" : Str)) (hi : X.N[i]? = some f) (v0 : Vis X.env.scope "self") (vi : Vis X.env.scope f) (nd : (f == ("__debug__" : Str)) = false) (ncd : (f == ("__classdict__" : Str)) = false) :
    PS X (.Assign [.Attribute (.Name "self" q1) f q2] (.Name f q3) q4) (tOst X.K f (tVar 0) (tVar i)) :=
  ps_ost (pe_var h0 v0 (by decide +kernel) (by decide +kernel)) (pe_var hi vi nd ncd)
end
section
variable {P : Program} {w : World} {K : PySem.W.Frag} {mg : Str → Option Value} {base : Heap} {k : Nat} {c : String} {C a : Addr} {fd : FuncData} {st : Stmt} {qual : Str}
def selfS : Str := "self"
def paceS : Str := "PaceError"
/-- an __init__'s names -/
def initScC (fs : List String) (sc : Scope) : Bool :=
  decide (sc.kind = .function) && !sc.isCoroutine && !sc.isGenerator && decide ((selfS :: fs.map Str.ofString).Nodup) && ((selfS :: fs.map Str.ofString).all fun x => (sc.names.lookup x == some .local) && !(x == ("__debug__" : Str)) && !(x == ("__classdict__" : Str))) && (sc.names.all fun y => decide (y.2 ≠ .free)) &&
    (sc.names.lookup paceS == some .globalImplicit)
theorem initSc_ok {fs : List String} {sc : Scope} (h : initScC fs sc = true) : FnScope (selfS :: fs.map Str.ofString) (selfS :: fs.map Str.ofString) sc ∧ (∀ x ∈ selfS :: fs.map Str.ofString, sc.names.lookup x = some .local ∧ (x == ("__debug__" : Str)) = false ∧ (x == ("__classdict__" : Str)) = false) ∧ sc.names.lookup paceS = some .globalImplicit := by
  unfold initScC at h
  simp only [Bool.and_eq_true, decide_eq_true_eq, Bool.not_eq_true', List.all_eq_true, beq_iff_eq] at h
  obtain ⟨⟨⟨⟨⟨⟨h1, h2⟩, h3⟩, h4⟩, h5⟩, h6⟩, h7⟩ := h
  exact ⟨⟨h1, h2, h3, h4, List.take_length, fun x hx => .inl (h5 x hx).1.1, h6⟩, fun x hx => ⟨(h5 x hx).1.1, (h5 x hx).1.2, (h5 x hx).2⟩, h7⟩
theorem init_ok (F : Fun K "__init__" qual st a fd) (x : ExAt K c C) (pk : PaceOk K mg) (hs : initScC (excF c) (defScope st) = true) (hb : initC (excF c) st = true) : FnOk P w K mg base (L2.CX P w) (k + 1) a fd (selfS :: (excF c).map Str.ofString) (spInit c C) := by
  obtain ⟨S, nm, gp⟩ := initSc_ok hs
  obtain ⟨CP, hm, hr, hsp, hv⟩ := pk.ex
  refine Fun.okX F S (fun vs H Q E ⟨a, ys, e, l, _⟩ => by rw [e]; simp [l]) fun cdv A outer s H vs Q E room sp => ?_
  obtain ⟨e, ys, rfl, hl, ee, fin⟩ := sp
  have slot : ∀ (i : Nat) (y : Str), (selfS :: (excF c).map Str.ofString)[i]? = some y → (defScope st).names.lookup y = some .local ∧ (y == ("__debug__" : Str)) = false ∧ (y == ("__classdict__" : Str)) = false := fun i y e => nm y (List.mem_of_getElem? e)
  have nf := x.nf
  unfold initC at hb
  split at hb
  · rename_i f b p1 i p2 s1 p3 m j p4 p5 p6 s2 p7 f1 p8 v1 p9 p10 ef eb
    simp only [Bool.and_eq_true, decide_eq_true_eq] at hb
    obtain ⟨⟨⟨⟨⟨⟨ln, rfl⟩, rfl⟩, rfl⟩, rfl⟩, rfl⟩, rfl⟩ := hb
    rw [ef] at slot hl nf
    obtain ⟨y, rfl⟩ : ∃ y, ys = [y] := by
      match ys, hl with
      | [y], _ => exact ⟨y, rfl⟩
    have z0 := slot 0 selfS rfl
    have z1 := slot 1 (Str.ofString f) rfl
    rw [eb]
    refine ⟨_, pss_cons (ps_expr (pe_pinit gp hm hr hsp hv (pa_cons (pe_var (i := 0) (by rw [ef]; rfl) (.inl z0.1) z0.2.1 z0.2.2) (pa_cons pe_str pa_nil)) (call_line rfl rfl ln)) rfl) (pss_one (ps_field (f := Str.ofString f) (i := 1) S.nd (by rw [ef]; rfl) (by rw [ef]; rfl) (.inl z0.1) (.inl z1.1) z1.2.1 z1.2.2)), ?_⟩
    refine ⟨_, rfl, _, C, _, rfl, by simp, x.oex, ee, ?_⟩
    refine ⟨_, rfl, _, rfl, e, C, rfl, x.oex, nf f (by simp), .inl ⟨ee, fun dx hd hne => ?_⟩⟩
    refine fin _ dx hd hne upd_same (by rw [upd_ne hne, upd_same]; unfold xdl; rw [ef]; rfl) fun b h1 h2 => by rw [upd_ne h1, upd_ne h2]
  · rename_i f g b p1 i p2 s1 p3 m j p4 p5 p6 s2 p7 f1 p8 v1 p9 p10 s3 p11 f2 p12 v2 p13 p14 ef eb
    simp only [Bool.and_eq_true, decide_eq_true_eq] at hb
    obtain ⟨⟨⟨⟨⟨⟨⟨⟨⟨ln, rfl⟩, rfl⟩, rfl⟩, rfl⟩, rfl⟩, rfl⟩, rfl⟩, rfl⟩, rfl⟩ := hb
    rw [ef] at slot hl nf
    obtain ⟨y, z, rfl⟩ : ∃ y z, ys = [y, z] := by
      match ys, hl with
      | [y, z], _ => exact ⟨y, z, rfl⟩
    have z0 := slot 0 selfS rfl
    have z1 := slot 1 (Str.ofString f) rfl
    have z2 := slot 2 (Str.ofString g) rfl
    rw [eb]
    refine ⟨_, pss_cons (ps_expr (pe_pinit gp hm hr hsp hv (pa_cons (pe_var (i := 0) (by rw [ef]; rfl) (.inl z0.1) z0.2.1 z0.2.2) (pa_cons pe_str pa_nil)) (call_line rfl rfl ln)) rfl) (pss_cons (ps_field (f := Str.ofString f) (i := 1) S.nd (by rw [ef]; rfl) (by rw [ef]; rfl) (.inl z0.1) (.inl z1.1) z1.2.1 z1.2.2)
      (pss_one (ps_field (f := Str.ofString g) (i := 2) S.nd (by rw [ef]; rfl) (by rw [ef]; rfl) (.inl z0.1) (.inl z2.1) z2.2.1 z2.2.2))), ?_⟩
    refine ⟨_, rfl, _, C, _, rfl, by simp, x.oex, ee, ?_⟩
    refine ⟨_, rfl, _, rfl, e, C, rfl, x.oex, nf f (by simp), .inl ⟨ee, fun dx hd hne => ?_⟩⟩
    refine ⟨_, rfl, _, rfl, e, C, rfl, x.oex, nf g (by simp), .inr ⟨dx, _, upd_same, by rw [upd_ne hne, upd_same], by simp, ?_⟩⟩
    refine fin _ dx hd hne (by rw [upd_ne (Ne.symm hne), upd_same]) (by rw [upd_same]; unfold xdl; rw [ef]; rfl) fun b h1 h2 => by rw [upd_ne h2, upd_ne h1, upd_ne h2]
  · cases hb
end
end Mp

set_option maxRecDepth 100000
set_option maxHeartbeats 1000000
/-! Mp3f: try. -/
namespace Mp
open PySem PySem.Spec PyProof.Rows L2

/-- the context of an except suite: the refusal is tracked -/
abbrev hotX (X : Cx) (a : Addr) : Cx := { X with A := X.A.mark (some (.ref a)), calm := false, xe := fun _ _ => False }
theorem exk_ok {P : Program} {w : World} {H : Hp} {h : Heap} {a C : Addr} {d : Option Addr} {o : Obj} {vs : Array Value} (e : h.get? a = some o) (h1 : o.cls = .ref C) (h2 : o.dict = d) (h3 : o.data = .fields vs) : ObjOk P w H h a (exk a C d) :=
  ⟨⟨o, vs, e, h1, h2, h3⟩, ⟨o, e⟩, fun g1 g2 z k => by
    obtain ⟨o, vs, q1, q2⟩ := z
    exact ⟨o, vs, k _ q1, q2⟩⟩
section
variable {X : Cx} {pins : List (Addr × Obj)} {σ : L2.St} {H : Hp} {s sI : Shared} {a C : Addr} {d : Option Addr}
theorem hot_ok (ok : X.Ok) (a : Addr) : (hotX X a).Ok :=
  ⟨ok.mod, ok.kind, ok.glob, ok.blt, ok.above, ok.inj, ok.has, ok.cab, (fun z => absurd (show false = true from z) Bool.false_ne_true), ok.frames, ok.stk, ok.exf, ok.bs, ok.bsz, ok.noex, ok.exfs, ok.funs, ok.frf⟩
theorem inv_hot (I : Inv X pins σ H s) (a : Addr) : Inv (hotX X a) pins σ H s := ⟨hot_ok I.ok a, I.os, I.bare, I.base, I.loc, I.cell, I.free, I.freeC, I.pin, I.hok, I.len⟩
theorem inv_unhot {a : Addr} (I : Inv (hotX X a) pins σ H s) (ok : X.Ok) : Inv X pins σ H s := ⟨ok, I.os, I.bare, I.base, I.loc, I.cell, I.free, I.freeC, I.pin, I.hok, I.len⟩
/-- a new object is tracked as a refusal -/
theorem inv_track (I0 : Inv X pins σ H sI) (I : Inv X pins σ H s) (hex : X.ex = []) (na : H a = none) (new : sI.heap.get? a = none) {o : Obj} {vs : Array Value} (e : s.heap.get? a = some o) (h1 : o.cls = .ref C) (h2 : o.dict = d) (h3 : o.data = .fields vs) :
    Inv X pins σ (upd H a (exk a C d)) s := by
  have ne : ∀ {b : Addr} {o : Obj}, sI.heap.get? b = some o → b ≠ a := fun {b o} q z => by rw [z, new] at q; cases q
  have ne2 : ∀ {b : Addr} {o : HO}, H b = some o → b ≠ a := fun {b o} q => ne_of_none q na
  obtain ⟨m0, hn0, _⟩ := I0.loc
  obtain ⟨oL, _, _, hoL, _⟩ := hn0
  refine ⟨I.ok, I.os, I.bare, ⟨I.base.keep, I.base.slot, fun b ob q n hx => ?_, I.base.there, fun b xs q => ?_, fun b ob u q => ?_, fun b ps q => ?_⟩, I.loc, I.cell, ?_, fun x c q => ?_, fun p hp => ?_, fun b ob q => ?_, I.len⟩
  · obtain ⟨o', q'⟩ := I0.base.there b ob q hx
    rw [upd_ne (ne q')]
    exact I.base.free b ob q n hx
  · have z := I.base.tups b xs q
    rw [upd_ne (ne2 z)]; exact z
  · have z := I.base.frzs b ob u q
    rw [upd_ne (ne2 z)]; exact z
  · obtain ⟨more, z⟩ := I.base.tbls b ps q
    exact ⟨more, by rw [upd_ne (ne2 z)]; exact z⟩
  · rw [upd_ne (ne hoL)]; exact I.free
  · obtain ⟨v, z⟩ := I0.cell x c q
    obtain ⟨oc, z1, _⟩ := z
    rw [upd_ne (ne z1)]; exact I.freeC x c q
  · obtain ⟨z1, z2, z3, z4, z5⟩ := I.pin p hp
    exact ⟨z1, by rw [upd_ne (ne (I0.pin p hp).1)]; exact z2, z3, z4, z5⟩
  · by_cases hb : b = a
    · subst hb
      rw [upd_same] at q
      cases q
      exact exk_ok e h1 h2 h3
    · rw [upd_ne hb] at q
      exact (I.hok b ob q).stay (fun _ _ _ z => z) (fun c hc => by rw [upd_ne (ne2 hc)]; exact hc) fun c xs hc => by rw [upd_ne (ne2 hc)]; exact hc
end
theorem rs_gone {K : PySem.W.Frag} {φ : List Addr} {χ : Ads} {H : Hp} {σ : Sg} {τ : L2.St} (r : RS K φ χ H σ τ) (i : Nat) : RS K φ χ H (σ.set i none) (τ.set i none) := by
  refine ⟨by simp [r.len], fun j e he => ?_⟩
  by_cases hj : i = j
  · subst hj
    by_cases hl : i < σ.length
    · rw [List.getElem?_set_self hl] at he; cases he
    · rw [List.getElem?_eq_none (by simpa using hl)] at he; cases he
  · rw [List.getElem?_set_ne hj] at he ⊢
    exact r.at_ j e he
/-- except clauses and their terms -/
inductive HdsM (X : Cx) (l : List Nat) : List ExceptHandler → HL → Prop
  | nil : HdsM X l [] .nil
  | one {c : String} {C : Addr} {b₀ : Stmt} {suite : List Stmt} {ss : SL} {np pos' : Pos} {hds : List ExceptHandler} {hl : HL} (t : ExAt X.K c C) (hc : Names X (Str.ofString c) (.ref C))
      (hsu : ∀ a : Addr, PSs (hotX X a) (b₀ :: suite) (tML (hotX X a) WF l ss)) (r : HdsM X l hds hl) : HdsM X l (.ExceptHandler (some (.Name (Str.ofString c) np)) none (b₀ :: suite) pos' :: hds) (.cons c none ss hl)
  | as {c : String} {C : Addr} {b₀ : Stmt} {suite : List Stmt} {ss : SL} {np pos' : Pos} {hds : List ExceptHandler} {hl : HL} {i : Nat} {n : Str} (t : ExAt X.K c C) (hc : Names X (Str.ofString c) (.ref C)) (hi : X.N[i]? = some n) (hln : X.env.kindOf n = some .local)
      (hsu : ∀ a : Addr, PSs (hotX X a) (b₀ :: suite) (tML (hotX X a) WF l ss)) (r : HdsM X l hds hl) : HdsM X l (.ExceptHandler (some (.Name (Str.ofString c) np)) (some n) (b₀ :: suite) pos' :: hds) (.cons c (some i) ss hl)
section
variable {X : Cx} {W : WX} {l : List Nat} {φ : List Addr} {χ : Ads} {H : Hp} {h : Hh} {D : Ends}
/-- a suite's outcome, from the clause's -/
theorem suite_out {i : Option Nat} {r : R Fl} (a : Addr) (o : OutS X W l φ χ H (r.bind (suiteV i)) D) :
    OutS (hotX X a) WF l φ χ H r { nx := fun τ' H' => ∃ φ' χ' σ', RS X.K φ' χ' H' σ' τ' ∧ ∀ τ2, RS X.K φ' χ' H' (asGone i σ') τ2 → D.nx τ2 H', rt := D.rt, bk := fun _ _ => False, ct := fun _ _ => False } := by
  cases r with
  | bad => exact o
  | ex c fs h' => exact o
  | ok fl h' =>
    intro φ' χ' H' x hr
    cases fl with
    | nx σ1 =>
      intro τ1 rs1
      have o : OutS X W l φ χ H (.ok (.nx (asGone i σ1)) h') D := o
      exact ⟨φ', χ', σ1, rs1, fun τ2 rs2 => o φ' χ' H' x hr τ2 rs2⟩
    | rt d =>
      have o : OutS X W l φ χ H (.ok (.rt d) h') D := o
      exact o φ' χ' H' x hr
    | xc c fs σ1 =>
      have o : OutS X W l φ χ H .bad D := o
      exact o.elim
theorem m_try {body : List Stmt} {h₀ : ExceptHandler} {hds : List ExceptHandler} {sb : SL} {hl : HL} {pos : Pos} (hs : X.stack = X.env :: X.outer) (hf : X.env.frame = some X.env.locals) (hex : X.ex = []) (hN : X.N.Nodup) (tk : Takes X W)
    (hb : ∀ (Wb : WX) (pn : List (Addr × Obj)) (xe : Value → Shared → Prop), Takes (X.tr pn xe) Wb → PassesOwn (model X.prog X.w) X.A X.env xe → PSs (X.tr pn xe) body (tML (X.tr pn xe) Wb l sb))
    (hh : HdsM X l (h₀ :: hds) hl) : PS X (.Try body (h₀ :: hds) [] [] pos) (tMS X W l (.try_ sb hl)) := by
  refine ⟨fun pins s τ H D I ⟨φ, χ, σ, h, rs, hr, o⟩ => ?_⟩
  have ok := I.ok
  have hfr : X.A.frames = some (X.env :: X.outer) := by rw [ok.frames, hs]
  refine wpAny_Try_except ?_
  let Wb : WX := fun cls dd τ' H' => ∃ φ' χ' σ' h' c fs, RS X.K φ' χ' H' σ' τ' ∧ HR X.K X.mg φ' χ' H' l h' ∧ XV X.K X.mg φ' χ' H' c fs cls dd ∧ OutS X W l φ' χ' H' (exH l hl c fs σ' h') D
  have oB : OutS X Wb l φ χ H (exL l sb σ h) D := by
    unfold exS at o
    cases e : exL l sb σ h with
    | bad => rw [e] at o; exact o
    | ex c fs h' => rw [e] at o; exact o
    | ok fl h' =>
      rw [e] at o
      cases fl with
      | nx σ' => exact o
      | rt d => exact o
      | xc c fs σ' =>
        have o : OutS X W l φ χ H (exH l hl c fs σ' h') D := o
        exact fun φ' χ' H' x hr' τ' cls dd rs' xv => ⟨φ', χ', σ', h', c, fs, rs', hr', xv, OutS.later x o⟩
  refine wpAny_mono ((hb Wb (X.pn ++ pins) (fun e s₁ => wpAny (model X.prog X.w) X.A (noteFrame e X.env) (fun _ s₂ => wpAny (model X.prog X.w) X.A (setFlight e none) (fun _ s₃ =>
    wpAny (model X.prog X.w) X.A (handleBy e X.env (h₀ :: hds)) (SP X pins D) X.xe s₃) X.xe s₂) X.xe s₁) (fun u s' xx => ?_) PassesOwn.looking).run [] s τ H D (I.toTry _) ⟨φ, χ, σ, h, rs, hr, oB⟩) (fun f s1 hsp => ?_) (fun e s1 he => he)
  · -- the catch
    obtain ⟨a, B, sI, pins', τ', H', cls, d, rfl, J', nb, up, sky, na, os, ag, w⟩ := xx
    have J : Inv X pins τ' H' sI := J'.ofTry ok
    have sky' : Sky B (X.env :: X.outer) a (Zc cls d) X.env.locals s'.heap := by rw [← hs]; exact sky
    show wpAny (model X.prog X.w) X.A (noteFrame (.ref a) X.env) _ _ _
    refine Sky.land Zc.steady hfr hf sky' fun h3 fl3 up3 => ?_
    have J3 : Inv X pins τ' H' { s' with heap := h3 } := J.landed nb fl3.1 (up.trans up3) os ag
    obtain ⟨oe3, vs3, he3, hz3, hd3⟩ := fl3.there
    have notFr : ∀ {h : Heap} {o : Obj} {vs : Array Value}, h.FunFrames B (X.env :: X.outer) → h.get? a = some o → o.data = .fields vs → a ∉ frs (X.env :: X.outer) := fun {h o vs} ff e dd hm => by
      obtain ⟨_, o', e', hnf⟩ := ff.mem hm
      rw [e] at e'; cases e'
      exact hnf _ dd
    have nfr := notFr fl3.2.2.1 he3 hd3
    have new : sI.heap.get? a = none := by
      cases z : sI.heap.get? a with
      | none => rfl
      | some o =>
        have z2 := nb a o z (by rw [hs]; exact nfr)
        rw [fl3.2.1] at z2; cases z2
    obtain ⟨φ1, χ1, σ1, h1, c, fs, rs1, hr1, xv, oh⟩ := w
    obtain ⟨C, xC, nP, rfl⟩ := xv.cl
    have nc : ¬ χ1 a := fun q => hr1.ch a q na
    have go : ∀ {hds' : List ExceptHandler} {hl' : HL}, HdsM X l hds' hl' → OutS X W l φ1 χ1 H' (exH l hl' c fs σ1 h1) D →
        wpAny (model X.prog X.w) X.A (handleBy (.ref a) X.env hds') (SP X pins D) X.xe { s' with heap := h3 } := by
      intro hds' hl' hk
      -- the test of a clause
      have test : ∀ {c' : String} {C' : Addr} {np : Pos} {Q : Value → Shared → Prop} {E : Value → Shared → Prop}, Names X (Str.ofString c') (.ref C') → Q (.ref C') { s' with heap := h3 } →
          wpAny (model X.prog X.w) (X.A.mark (some (.ref a))) (eval (.Name (Str.ofString c') np) X.env) Q E { s' with heap := h3 } := fun {c' C' np Q E} nm q => by
        obtain ⟨hg, hdbg, hm | ⟨hm, hv, hnn⟩⟩ := nm
        · exact ld_glob (X := hotX X a) (inv_hot J3 a) hg hm q hdbg
        · exact ld_blt (X := hotX X a) (inv_hot J3 a) hg hm hv q hnn hdbg
      have LT : PySem.W.Looks (model X.prog X.w) h3 (typeOf (.ref a)) (.ref C) := fun A Q E s k q => wpAny_typeOf_ref (k _ _ he3) (by rw [hz3.1]; exact q)
      -- within a clause
      have inside : ∀ {h4 : Heap}, HandSPX.FlyingZ B (X.env :: X.outer) a (Zc (.ref C) d) h4 → h3.UpToSlots h4 → ∃ φ2 χ2 H2, Inv X pins τ' H2 { s' with heap := h4 } ∧ RS X.K φ2 χ2 H2 σ1 τ' ∧ HR X.K X.mg φ2 χ2 H2 l h1 ∧ RV X.K φ2 χ2 H2 (.exc c fs) (.ref a) ∧ Ext φ1 χ1 H' φ2 χ2 H2 := fun {h4} fl4 up4 => by
        have J4 : Inv X pins τ' H' { s' with heap := h4 } := J.landed nb fl4.1 ((up.trans up3).trans up4) os ag
        obtain ⟨oe4, vs4, he4, hz4, hd4⟩ := fl4.there
        have x2 : Ext φ1 χ1 H' φ1 χ1 (upd H' a (exk a C d)) := by
          refine ⟨⟨⟨[], by simp⟩, fun _ q => q, fun _ q n => absurd q n, fun b o _ ho => ?_, fun b xs ho => ?_, fun b o xs ho => ?_⟩, fun b o _ ho => ?_, fun b q n => absurd q n⟩ <;> (rw [upd_ne (ne_of_none ho na)]; exact ho)
        have hr2 : HR X.K X.mg φ1 χ1 (upd H' a (exk a C d)) l h1 := hr1.ext x2 (fun b hb => upd_ne (by obtain ⟨u, e⟩ := hr1.heap hb; exact ne_of_none e na)) fun b q => by
          by_cases e : b = a
          · rw [e, upd_same]; simp
          · rw [upd_ne e]; exact hr1.ch b q
        refine ⟨φ1, χ1, _, inv_track J J4 hex na new he4 hz4.1 hz4.2 hd4, rs1.ext x2, hr2, ?_, x2⟩
        rcases xv.fl with ⟨rfl, rfl⟩ | ⟨b, vs, rfl, nb', eb, rv, lv⟩
        · exact .exc0 xC nP nc upd_same
        · exact .exc xC nP nc upd_same nb' (by rw [upd_ne (ne_of_none eb na)]; exact eb) lv (rv.ext x2)
      induction hk with
      | nil =>
        intro oh
        refine wpAny_handleBy_nil ?_
        obtain ⟨k1, k2, k3, oe, vs, T, oT, ts', he, hz, hd, h1', hr'⟩ := id fl3
        unfold PySem.passOn
        refine wpAny_bind (wpAny_field he hd h1' ?_)
        rw [if_neg (show ¬ ((Value.ref T == Value.none) = true) from by simp)]
        have fin : wpAny (model X.prog X.w) X.A (setFlight (.ref a) X.env.frame) (fun _ s4 => wpAny (model X.prog X.w) X.A (throw (.ref a) : Sem Flow) (SP X pins D) X.xe s4) X.xe { s' with heap := h3 } := by
          rw [hf]
          refine HandSPX.setFlight_upZ fl3 fun h4 hh4 up4 => wpAny_throw (tk _ _ ?_)
          unfold exH at oh
          exact ⟨a, B, sI, pins, τ', H', .ref C, d, rfl, J, nb, (up.trans up3).trans up4, .inr (.inr (by rw [hs]; exact hh4)), na, os, ag, oh φ1 χ1 H' .refl hr1 τ' _ d rs1 xv⟩
        first
          | exact wpAny_bind (wpAny_pure (wpAny_bind fin))
          | exact wpAny_bind fin
      | @one c' C' b₀ suite ss np pos' hds2 hl2 t hc hsu r ih =>
        intro oh
        have LM := PySem.W.exm_one (M := model X.prog X.w) (J3.kIn) LT (xC.exm nP t)
        refine wpAny_handleBy_cons (codeAny_handlers_test ?_) (by intro q; cases q)
        refine test hc (LM.here ?_)
        unfold exH at oh
        cases hb1 : excSub c c' with
        | true =>
          rw [if_pos hb1] at oh
          refine codeAny_handlers_suite ?_
          refine HandSPX.lands_againZ fl3 fun h4 fl4 up4 => ?_
          obtain ⟨φ2, χ2, H2, J2, rs2, hr2, rv2, x2⟩ := inside fl4 up4
          refine wpAny_mono ((hsu a).run pins _ τ' H2 _ (inv_hot J2 a) ⟨φ2, χ2, σ1, h1, rs2, hr2, suite_out a (OutS.later x2 oh)⟩) (fun f s6 hsp => ?_) (fun _ _ z => False.elim z)
          cases f with
          | next =>
            obtain ⟨σ6, H6, S6, φ6, χ6, σ7, rs7, q6⟩ := hsp
            exact ⟨_, _, inv_unhot S6 ok, q6 _ rs7⟩
          | brk => obtain ⟨σ6, H6, S6, q6⟩ := hsp; exact q6.elim
          | cont => obtain ⟨σ6, H6, S6, q6⟩ := hsp; exact q6.elim
          | ret u =>
            obtain ⟨v6, σ6, H6, S6, r6, q6⟩ := hsp
            exact ⟨_, _, _, inv_unhot S6 ok, r6, q6⟩
        | false =>
          rw [if_neg (by rw [hb1]; decide)] at oh
          show wpAny _ X.A (handleBy (.ref a) X.env hds2) _ _ _
          exact ih oh
      | @as c' C' b₀ suite ss np pos' hds2 hl2 i n t hc hi hln hsu r ih =>
        intro oh
        have LM := PySem.W.exm_one (M := model X.prog X.w) (J3.kIn) LT (xC.exm nP t)
        refine wpAny_handleBy_cons (codeAny_handlers_test ?_) (by intro q; cases q)
        refine test hc (LM.here ?_)
        unfold exH at oh
        cases hb1 : excSub c c' with
        | true =>
          rw [if_pos hb1] at oh
          refine codeAny_handlers_suite_as ?_
          refine HandSPX.lands_againZ fl3 fun h4 fl4 up4 => ?_
          obtain ⟨φ2, χ2, H2, J2, rs2, hr2, rv2, x2⟩ := inside fl4 up4
          refine store_ok (X := hotX X a) (v := .ref a) (inv_hot J2 a) hN hi (.inl hln) rfl (fun s5 S5 => ?_) (.inr hln)
          refine wpAny_mono ((hsu a).run pins s5 _ H2 _ S5 ⟨φ2, χ2, _, h1, rs2.set i rv2, hr2, suite_out a (OutS.later x2 oh)⟩) (fun f s6 hsp => ?_) (fun _ _ z => False.elim z)
          have end_ : ∀ {σ6 : L2.St} {H6 : Hp} {Q : Shared → Prop}, Inv (hotX X a) pins σ6 H6 s6 → (∀ s7, Inv X pins (σ6.set i none) H6 s7 → Q s7) →
              wpAny (model X.prog X.w) X.A (do bindName X.env n .none; unbindBehindTheSuite X.env n pos') (fun _ s7 => Q s7) X.xe s6 := fun {σ6 H6 Q} S6 hq => gone_ok (inv_unhot S6 ok) hN hi hln hq
          cases f with
          | next =>
            obtain ⟨σ6, H6, S6, φ6, χ6, σ7, rs7, q6⟩ := hsp
            exact end_ S6 fun s7 J7 => ⟨_, _, J7, q6 _ (rs_gone rs7 i)⟩
          | brk => obtain ⟨σ6, H6, S6, q6⟩ := hsp; exact q6.elim
          | cont => obtain ⟨σ6, H6, S6, q6⟩ := hsp; exact q6.elim
          | ret u =>
            obtain ⟨v6, σ6, H6, S6, r6, q6⟩ := hsp
            exact end_ S6 fun s7 J7 => ⟨_, _, _, J7, r6, q6⟩
        | false =>
          rw [if_neg (by rw [hb1]; decide)] at oh
          show wpAny _ X.A (handleBy (.ref a) X.env hds2) _ _ _
          exact ih oh
    exact go hh oh
  · cases f with
    | next =>
      obtain ⟨σ', H', J', q⟩ := hsp
      exact wpAny_execs_nil ⟨σ', H', J'.ofTry ok, q⟩
    | brk =>
      obtain ⟨σ', H', J', q⟩ := hsp
      exact ⟨σ', H', J'.ofTry ok, q⟩
    | cont =>
      obtain ⟨σ', H', J', q⟩ := hsp
      exact ⟨σ', H', J'.ofTry ok, q⟩
    | ret u =>
      obtain ⟨v, σ', H', J', r, q⟩ := hsp
      exact ⟨v, σ', H', J'.ofTry ok, r, q⟩
end
end Mp

set_option maxRecDepth 100000
set_option maxHeartbeats 1000000
/-! Mp3h: an own refusal, made and held. -/
namespace Mp
open PySem PySem.Spec PyProof.Rows L2
section
variable {X : Cx} {W : WX} {l : List Nat} {k : Nat}
/-- what makes a refusal tells it as a value, too -/
theorem pe_mkv {e : Expr} {t : L2.St → Hp → L2.XK → Prop} (he : L2.PMk X e t) : PE X e (fun σ H Q => t σ H fun cls d H' => ∃ C, cls = .ref C ∧ ∀ a, H' a = none → Q (.ref a) (upd H' a (exk a C d))) := by
  refine ⟨fun pins s σ H Q I h => ?_⟩
  refine wpAny_mono (he pins s σ H _ I h) (fun u s1 hu => ?_) fun _ _ x => x
  obtain ⟨a, oe, vs, sI, H', cls, d, rfl, J, k, hne, ha, hz, hd, h1, na, os, ag, r, C, rfl, q⟩ := hu
  have J2 := J.laidN (t' := s1.toks) k hne na (exk_ok ha hz.1 hz.2 hd)
  exact ⟨.ref a, _, ⟨J2.ok, os.trans J2.os, ag, J2.base, J2.loc, J2.cell, J2.free, J2.freeC, J2.pin, J2.hok, J2.len⟩, rfl, q a na⟩
theorem m_mkx0 {c : String} {m : Str} {j : Nat} {p p2 pos : Pos} (z : RzOk X.prog X.w X.K X.mg X.base k c) (he : excF c = []) (hg : Gl X (Str.ofString c)) (hd : (Str.ofString c == ("__debug__" : Str)) = false) :
    PE X (.Call (.Name (Str.ofString c) p) [.Constant (.str m) j p2] [] pos) (tM X W l (.mkx c .nil)) := by
  obtain ⟨C, x, n, hm, q⟩ := z.ex
  rcases q with ⟨_, q⟩ | ⟨_, _, _, q, _⟩
  · refine peImp (pe_mkv (pmk_own PySem.F.excBase_ValueError q hm x.kp (raises_own x.base x.ty) hg hd)) fun τ H Q ⟨φ, χ, σ, h, rs, hr, o⟩ => ?_
    unfold evE evL at o
    rw [R.bind_ok, he] at o
    refine ⟨C, rfl, fun a ha => ?_⟩
    have nc : ¬ χ a := fun q => hr.ch a q ha
    exact o _ _ _ (.newX ha) (hr.newX ha) _ (.plain (.exc0 x n nc upd_same) fun q => by cases q)
  · exact absurd he q
theorem m_mkx1 {c : String} {e : Expr} {as : List Expr} {es : EL} {p pos : Pos} (z : RzOk X.prog X.w X.K X.mg X.base k c) (he : excF c ≠ []) (room : Room (k + 1) X.A) (hg : Gl X (Str.ofString c)) (hd : (Str.ofString c == ("__debug__" : Str)) = false)
    (ha : PA X (e :: as) (tMs X W l es)) (hst : starEach (e :: as) X.env = (false, eval e X.env) :: starEach as X.env) (hpl : (backTo pos (starEach as X.env)).any (·.1) = false) :
    PE X (.Call (.Name (Str.ofString c) p) (e :: as) [] pos) (tM X W l (.mkx c es)) := by
  obtain ⟨C, x, n, hm, q⟩ := z.ex
  rcases q with ⟨q, _⟩ | ⟨f, fd, ps, _, q1, q2, F, b⟩
  · exact absurd q he
  · refine peImp (pe_mkv (pmk_oex (dvs := []) x.oex q1 q2 F room b .nil passL hg hm ha hd hst hpl)) fun τ H Q ⟨φ, χ, σ, h, rs, hr, o⟩ => ?_
    unfold evE at o
    refine tMs.of rs hr (o.bind.mono fun φ1 χ1 H1 ds h1 _ x1 _ g _ hr1 vs rvs => ?_)
    split at g
    · rename_i hl
      have hlv : vs.length = (excF c).length := by rw [← rvs.length, hl]
      have few : (excF c).length ≤ 2 := by unfold excF; split <;> decide
      refine ⟨by omega, fun a ha => ⟨a, vs, by simp, hlv, upd_same, fun H2 d hd hda ea ed rest => ⟨rfl, d, xdl c vs, ea, ed, ?_, ?_⟩⟩⟩
      · rw [upd_ne hda] at hd; exact hd
      · rw [upd_ne hda] at hd
        have hH : upd (del H2 a) d (.xd (xdl c vs)) = upd H1 d (.xd (xdl c vs)) := by
          funext b
          by_cases hb : b = d
          · rw [hb, upd_same, upd_same]
          · rw [upd_ne hb, upd_ne hb]
            by_cases hba : b = a
            · rw [hba, del_same, ha]
            · rw [del_ne hba, rest b hba hb, upd_ne hba]
        rw [hH]
        have nc : ¬ χ1 d := fun q => hr1.ch d q hd
        refine ⟨C, rfl, fun a2 ha2 => ?_⟩
        have x2 : Ext φ1 χ1 H1 φ1 χ1 (upd H1 d (.xd (xdl c vs))) := .newX hd
        have hr2 : HR X.K X.mg φ1 χ1 (upd H1 d (.xd (xdl c vs))) l h1 := hr1.newX hd
        have nc2 : ¬ χ1 a2 := fun q => hr2.ch a2 q ha2
        have nd : d ≠ a2 := fun e => by rw [← e, upd_same] at ha2; cases ha2
        refine g _ _ _ (x2.trans (.newX ha2)) (hr2.newX ha2) _ (.plain (.exc x n nc2 upd_same nc ?_ hlv ((rvs.ext x2).ext (.newX ha2))) fun q => by cases q)
        rw [upd_ne nd, upd_same]
    · exact g.elim
end
end Mp

set_option maxRecDepth 100000
set_option maxHeartbeats 1000000
/-! Mp3g: comprehensions out of which a refusal flies. -/
namespace Mp
open PySem PySem.Spec PyProof.Rows L2

/-- noting looks at the frame alone -/
theorem note_same {e1 e2 : Env} (h : e1.frame = e2.frame) (x : Value) : noteFrame x e1 = noteFrame x e2 := by
  unfold noteFrame PySem.frameOf
  rw [h]
theorem frames_at {B B' h h' : Heap} : ∀ {l : List Env}, h.FunFrames B l → (∀ L ∈ frs l, h'.get? L = h.get? L) → (∀ L ∈ frs l, B'.get? L = none) → h'.FunFrames B' l
  | [], _, _, _ => trivial
  | env :: l, x, hk, hn => by
    obtain ⟨k, ⟨L, o, hf, _, ho, hd⟩, r⟩ := x
    have hm : L ∈ frs (env :: l) := List.mem_filterMap.mpr ⟨env, List.mem_cons_self, hf⟩
    have tl : ∀ b, b ∈ frs l → b ∈ frs (env :: l) := fun b hb => by
      obtain ⟨e, he, q⟩ := List.mem_filterMap.mp hb
      exact List.mem_filterMap.mpr ⟨e, List.mem_cons_of_mem _ he, q⟩
    exact ⟨k, ⟨L, o, hf, hn L hm, (hk L hm).trans ho, hd⟩, frames_at r (fun b hb => hk b (tl b hb)) fun b hb => hn b (tl b hb)⟩
theorem frames_none {B h : Heap} : ∀ {l : List Env}, h.FunFrames B l → ∀ L ∈ frs l, B.get? L = none
  | [], _, L, hL => by simp [frs] at hL
  | env :: l, ⟨_, ⟨L', o, hf, hb, _, _⟩, r⟩, L, hL => by
    obtain ⟨e, he, q⟩ := List.mem_filterMap.mp hL
    rcases List.mem_cons.mp he with rfl | he
    · rw [hf] at q; cases q; exact hb
    · exact frames_none r L (List.mem_filterMap.mpr ⟨e, he, q⟩)
section
variable {M : Model} {A : Around} {E : Value → Shared → Prop} {s : Shared} {env : Env} {outer : List Env} {B : Heap} {e L : Addr} {Z : Obj → Prop} {fl : Value}
/-- noted on from another hand -/
theorem note_on {Q : Unit → Shared → Prop} (hZ : HandSPX.Steady Z) (hfr : A.frames = some (env :: outer)) (hf : env.frame = some L) (hB : B.StaysIn s.heap) (hn : B.get? e = none) (hl : s.heap.FunFrames B (env :: outer)) (ht : HandSPX.TracedZ s.heap B e Z fl) (ne : (fl == rawInt L) = false)
    (hQ : ∀ h', HandSPX.HeldZ B (env :: outer) e Z L h' → s.heap.UpToSlots h' → Q () { s with heap := h' }) : wpAny M A (noteFrame (.ref e) env) Q E s := by
  obtain ⟨oe, vs, T, oT, ts, he, hz, hd, h1, hT0, hTe, hT, hdT, h3⟩ := ht
  have apart : ∀ b, b ≠ T → (s.heap.update T (Obj.mapFields (·.setIfInBounds 3 Value.none))).get? b = s.heap.get? b := fun b hb => Heap.get?_update_other _ _ (Ne.symm hb)
  have rec_ : ∀ b o, s.heap.get? b = some o → (∀ vs, o.data ≠ .fields vs) → b ≠ T := fun b o hb hnf q => by
    subst q; rw [hT] at hb; cases hb; exact hnf ts hdT
  unfold noteFrame
  simp only [hf]
  apply wpAny_bind
  apply wpAny_field he hd h1
  rw [if_pos (by simp)]
  apply wpAny_bind
  apply wpAny_field hT hdT h3
  rw [if_neg (by rw [ne]; simp)]
  apply wpAny_bind
  apply wpAny_setField hT hdT (Array.getElem?_eq_some_iff.mp h3).1
  have hB2 : B.StaysIn (s.heap.update T (Obj.mapFields (·.setIfInBounds 3 Value.none))) := fun b o hbo => by
    rw [apart b fun q => by subst q; rw [hT0] at hbo; cases hbo]
    exact hB b o hbo
  refine HandSPX.wpAny_entryZ hZ hfr (Heap.FunFrames.of_keeps (fun b o hb hnf => ⟨o, by rw [apart b (rec_ b o hb hnf)]; exact hb, rfl⟩) hl) hf (by rw [apart e (Ne.symm hTe)]; exact he) hB2 hn hd (Array.getElem?_eq_some_iff.mp h1).1 hz fun h' hN => ?_
  refine hQ h' ⟨hN.1, hn, hN.2.1, hN.2.2.1⟩ fun b o hb hnf => hN.2.2.2 b o ?_ hnf
  rw [apart b (rec_ b o hb hnf)]
  exact hb
end
/-- what a comprehension is to reach; C, fr: its own names' dict and frame -/
def compTo (M : Model) (A : Around) (E : Value → Shared → Prop) (use : Option (Value → Sem Unit)) (Q : Value → Shared → Prop) (acc : Value) (C : Addr) (fr : Option Addr) (r : Result) (s' : Shared) : Prop := match r with
  | .ok f => compPost M A E use Q acc C (.ok f) s'
  | .error x => ∃ m, s'.heap.Ns C m ∧ ∀ h', Heap.SameBut C s'.heap h' → ∀ ce : Env, ce.locals = C → ce.frame = fr → wpAny M A (passOn "comprehension.variables-let-go" x ce : Sem Value) (fun _ _ => False) E { s' with heap := h' }
section
variable {M : Model} {A : Around} {E : Value → Shared → Prop} {s : Shared} {env : Env}
theorem comp_open {e : Expr} {scope : Scope} {pos : Pos} {mk fst : Sem Value} {g : Comprehension} {gs : List Comprehension} {cl : List (Str × Addr)} {use : Option (Value → Sem Unit)} {Q : Value → Shared → Prop}
    (hg : clausesOf e = g :: gs) (hfo : ∀ x, foldedSetIterable g.iter env x = pure x) (hcl : closureFor scope env = pure cl) (hk : scope.kind = .function) (hloc : ∀ x ∈ scope.names, x.2 = .local → scope.names.lookup x.1 = some .local)
    (h : wpAny M A fst (fun x s₁ => wpAny M A (pyIter x) (fun it s₂ => wpAny M A mk (fun acc s₃ =>
      wpAny M A (newFunctionEnv scope env.globals cl [] env.qual none .none (some env)) (fun ce s₄ =>
        codeAny M A (.compStart e 0 it acc { ce with scope := relabel scope env }) (compTo M A E use Q acc ce.locals ce.frame) s₄) E s₃) E s₂) E s₁) E s) :
    wpAny M A (comprehension e scope env pos mk false fst use) Q E s := by
  unfold comprehension
  rw [hcl, hg]
  apply wpAny_bind
  refine wpAny_mono h (fun x s₁ h₁ => ?_) fun _ _ q => q
  apply wpAny_bind
  apply wpAny_standAt
  apply wpAny_bind
  apply wpAny_of_eq (hfo x)
  apply wpAny_bind
  apply wpAny_holding
  refine wpAny_mono h₁ (fun it s₂ h₂ => ?_) fun _ _ q => q
  apply wpAny_standIf
  apply wpAny_bind
  refine wpAny_mono h₂ (fun acc s₃ h₃ => ?_) fun _ _ q => q
  apply wpAny_bind
  apply wpAny_pure
  apply wpAny_bind
  refine wpAny_mono h₃ (fun ce s₄ h₄ => ?_) fun _ _ q => q
  dsimp only
  have loc1 : ∀ x ∈ (scope.names.filter fun x => (x.2 == .local || x.2 == .cell) && x.1 != (".0" : Str)).reverse, x.2 = .local → Env.kindOf { ce with scope := relabel scope env } x.1 = some .local :=
    fun x hx hl => lookup_relabel_local (hloc x (List.mem_filter.mp (List.mem_reverse.mp hx)).1 hl)
  have loc2 : ∀ x ∈ (scope.names.filter fun x => (x.2 == .local || x.2 == .cell) && x.1 != (".0" : Str)).reverse.drop 1 ++ (scope.names.filter fun x => (x.2 == .local || x.2 == .cell) && x.1 != (".0" : Str)).reverse.take 1, x.2 = .local → Env.kindOf { ce with scope := relabel scope env } x.1 = some .local :=
    fun x hx => (List.mem_append.mp hx).elim (fun q => loc1 x (List.mem_of_mem_drop q)) fun q => loc1 x (List.mem_of_mem_take q)
  apply wpAny_holding
  apply wpAny_bind
  apply wpAny_attempt
  apply wpAny_holding
  refine wpAny_run ?_
  refine codeAny_mono h₄ fun r s' hr => ?_
  cases r with
  | error x =>
    obtain ⟨m, hn, hp⟩ := hr
    apply wpAny_bind
    apply wpAny_holding
    refine wpAny_comp_letGo (cenv := { ce with scope := relabel scope env }) hk _ s' m loc1 hn fun h' _ _ sb => ?_
    exact wpAny_mono (hp h' sb _ rfl rfl) (fun _ _ f => f.elim) fun _ _ y => y
  | ok f =>
    cases use with
    | none =>
      obtain ⟨m, hn, hp⟩ := hr
      apply wpAny_bind
      apply wpAny_holding
      refine wpAny_comp_letGo (cenv := { ce with scope := relabel scope env }) hk _ s' m loc1 hn fun h' _ _ sb => ?_
      exact wpAny_pure (hp h' sb)
    | some u =>
      apply wpAny_bind
      apply wpAny_rule
      apply wpAny_bind
      apply wpAny_holding
      refine wpAny_mono hr (fun _ s2 ⟨m, hn, hp⟩ => ?_) fun _ _ q => q
      apply wpAny_bind
      refine wpAny_comp_letGo (cenv := { ce with scope := relabel scope env }) hk _ s2 m loc2 hn fun h' _ _ sb => ?_
      exact wpAny_pure (hp h' sb)
end
theorem hid_ne {h : Heap} {C b : Addr} {o : Obj} (e : (PySem.W.hideAll h [C]).get? b = some o) : b ≠ C := fun q => by
  rw [PySem.W.hideAll_none [C] (by simp [q])] at e; cases e
theorem hid_get {h : Heap} {C b : Addr} {o : Obj} (e : h.get? b = some o) (n : b ≠ C) : (PySem.W.hideAll h [C]).get? b = some o := PySem.W.hideAll_get [C] e (by simpa using n)
theorem hid_not {h : Heap} {C b : Addr} (e : h.get? b = none) : (PySem.W.hideAll h [C]).get? b = none := by
  cases q : (PySem.W.hideAll h [C]).get? b with
  | none => rfl
  | some o => rw [PySem.W.of_hideAll [C] q] at e; cases e
/-- a block's wish: the def's, with the def's slots -/
def wOf (W : WX) (σ : L2.St) : WX := fun c d _ H' => W c d σ H'
section
variable {X : Cx} {pins : List (Addr × Obj)} {σ : L2.St} {H3 : Hp} {s3 : Shared} {W : WX}
/-- out of the block: noted, the block's names let go, on in the def's air -/
theorem out_of {scope : Scope} {ce : Env} {fp : List Addr} {u : Value} {s' : Shared} {Qf : Value → Shared → Prop} {use : Option (Value → Sem Unit)} {acc : Value} (tk : Takes X W) (hst : X.stack = X.env :: X.outer) (hf : X.env.frame = some X.env.locals) (cf : ce.frame = X.env.frame) (cL : ce.locals = s3.heap.objs.size) (I3 : Inv X pins σ H3 s3)
    (f3 : ∀ b ∈ fp, FpOk X pins H3 b ∧ b < s3.heap.objs.size) (x : XE (X.blk s3 H3 scope ce fp) (wOf W σ) u s') :
    notedBy (model X.prog X.w) X.A ce (fun e s2 => compTo (model X.prog X.w) X.A X.xe use Qf acc ce.locals ce.frame (.error e) s2) u s' := by
  obtain ⟨a, B, sI, pins', σ', H, cls, d, rfl, I, nb, up, sky, na, os, ag, w⟩ := x
  have nb : ∀ b o, sI.heap.get? b = some o → b ∉ frs X.stack → B.get? b = some o := nb
  have hfr : X.A.frames = some (X.env :: X.outer) := by rw [I3.ok.frames, hst]
  have sky : Sky B X.stack a (Zc cls d) ce.locals s'.heap := sky
  rw [hst] at sky
  have hC : s3.heap.objs.size ≤ ce.locals := by rw [cL]; exact Nat.le_refl _
  have hLC : X.env.locals < ce.locals := by rw [cL]; exact I3.lt
  show wpAny (model X.prog X.w) X.A (noteFrame (.ref a) ce) _ _ s'
  rw [note_same cf]
  have free : H ce.locals = none := I.free
  have held : ∀ h1, HandSPX.HeldZ B (X.env :: X.outer) a (Zc cls d) X.env.locals h1 → s'.heap.UpToSlots h1 → compTo (model X.prog X.w) X.A X.xe use Qf acc ce.locals ce.frame (.error (.ref a)) { s' with heap := h1 } := by
    intro h1 hh up1
    obtain ⟨m, hn, _⟩ := I.loc
    have hn : sI.heap.Ns ce.locals m := hn
    have hn1 : h1.Ns ce.locals m := (up.trans up1).ns hn
    refine ⟨m, hn1, fun h' sb cenv e1 e2 => ?_⟩
    obtain ⟨k1, k2, k3, oe, vs, T, oT, ts, he, hz, hd, g1, hT0, hTe, hT, hdT, g3⟩ := hh
    obtain ⟨oC, es, ep, hoC, hdC, _⟩ := hn1
    have aC : a ≠ ce.locals := fun q => by rw [q, hoC] at he; cases he; rw [hdC] at hd; cases hd
    have TC : T ≠ ce.locals := fun q => by rw [q, hoC] at hT; cases hT; rw [hdC] at hdT; cases hdT
    have frC : ∀ b ∈ frs (X.env :: X.outer), b ≠ ce.locals := fun b hb q => by
      rcases List.mem_cons.mp (I3.stkSub b (by rw [hst]; exact hb)) with z | z
      · rw [q] at z; rw [z] at hLC; exact Nat.lt_irrefl _ hLC
      · obtain ⟨_, o, ho, _⟩ := I3.ok.funs.mem z
        have := Heap.lt_size ho
        exact absurd (Nat.lt_of_lt_of_le this (Nat.le_trans I3.sz hC)) (by rw [q]; exact Nat.lt_irrefl _)
    have hh' : HandSPX.HeldZ (PySem.W.hideAll B [ce.locals]) (X.env :: X.outer) a (Zc cls d) X.env.locals h' := by
      refine ⟨fun b o hb => ?_, hid_not k2, frames_at k3 (fun b hb => sb.2 b (frC b hb)) (fun b hb => hid_not (frames_none k3 b hb)), oe, vs, T, oT, ts, (sb.2 a aC).trans he, hz, hd, g1, hid_not hT0, hTe, (sb.2 T TC).trans hT, hdT, g3⟩
      exact (sb.2 b (hid_ne hb)).trans (k1 b o (PySem.W.of_hideAll _ hb))
    unfold PySem.passOn
    apply wpAny_bind
    refine wpAny_field ((sb.2 a aC).trans he) hd g1 ?_
    rw [if_neg (by simp)]
    rw [e2, cf, hf]
    apply wpAny_bind
    refine HandSPX.setFlight_onZ (s := { s' with heap := h' }) hh' fun h2 hh2 up2 => ?_
    refine wpAny_throw (tk _ _ ⟨a, PySem.W.hideAll B [ce.locals], { sI with heap := PySem.W.hideAll sI.heap [ce.locals] }, pins, σ, H, cls, d, rfl, ?_, ?_, ?_, ?_, na, os, ag, w⟩)
    · refine I3.call' (ch := fp) I.os ⟨fun b o e n hb hx => ?_, fun b o e n hb hx => ?_, fun b o e n hx => I.base.free b o e n hx, fun b o e hx => ?_, I.base.tups, I.base.frzs, I.base.tbls⟩ ?_ I.bare fun b hb => ?_
      · exact hid_get (I.base.keep b o e n hb hx) (by rw [cL]; exact Nat.ne_of_lt (Heap.lt_size e))
      · obtain ⟨sl, q⟩ := I.base.slot b o e n hb hx
        exact ⟨sl, hid_get q (by rw [cL]; exact Nat.ne_of_lt (Heap.lt_size e))⟩
      · obtain ⟨o', q⟩ := I.base.there b o e hx
        exact ⟨o', hid_get q (by rw [cL]; exact Nat.ne_of_lt (Heap.lt_size e))⟩
      · intro b o q
        refine (I.hok b o q).stay (fun c u hc r => hid_get r fun z => ?_) (fun _ r => r) fun _ _ r => r
        rcases hc with hc | hc
        · rw [← hc, z, free] at q; cases q
        · rw [z, free] at hc; cases hc
      · obtain ⟨_, y1, y2, y3, y4, y5⟩ := (f3 b hb).1
        exact ⟨y3, y1, y4, y5⟩
    · intro b o hb hx
      exact hid_get (nb b o (PySem.W.of_hideAll _ hb) hx) (hid_ne hb)
    · intro b o hb hnf
      have n := hid_ne hb
      obtain ⟨sl1, q1⟩ := up b o (PySem.W.of_hideAll _ hb) hnf
      obtain ⟨sl2, q2⟩ := up1 b _ q1 hnf
      obtain ⟨sl3, q3⟩ := up2 b _ ((sb.2 b n).trans q2) hnf
      exact ⟨sl3, q3⟩
    · rw [hst]
      exact .inr (.inr hh2)
  have nn : ∀ fl, fl = Value.none ∨ fl = rawInt ce.locals → (fl == rawInt X.env.locals) = false := by
    rintro fl (rfl | rfl)
    · rfl
    · have : ((ce.locals : Nat) : Int) ≠ (X.env.locals : Nat) := fun q => Nat.ne_of_gt hLC (Int.ofNat.inj q)
      simpa [rawInt] using this
  rcases sky with ⟨q1, q2, q3, oe, vs, he, hz, hd, g1⟩ | ⟨q1, q2, q3, q4⟩ | ⟨q1, q2, q3, q4⟩
  · exact HandSPX.look_newZ Zc.steady hfr q3 hf he q1 q2 hd g1 hz held
  · exact note_on Zc.steady hfr hf q1 q2 q3 q4 (nn _ (.inl rfl)) held
  · exact note_on Zc.steady hfr hf q1 q2 q3 q4 (nn _ (.inr rfl)) held
/-- the block's context, its refusals in our hand -/
abbrev blkX (X : Cx) (s : Shared) (H : Hp) (scope : Scope) (ce : Env) (fp : List Addr) (xe : Value → Shared → Prop) : Cx := (X.blk s H scope ce fp).tr [] xe
theorem takesX {s : Shared} {H : Hp} {scope : Scope} {ce : Env} {fp : List Addr} (Wb : WX) (ok : (X.blk s H scope ce fp).Ok) : Takes (blkX X s H scope ce fp fun u s' => XE (X.blk s H scope ce fp) Wb u s') Wb := by
  rintro u s' ⟨a, B, sI, p, σ', H', cls, d, e, I, nb, up, sky, na, os, ag, w⟩
  exact ⟨a, B, sI, [], σ', H', cls, d, e, Inv.ofTry (X := X.blk s H scope ce fp) (pins := []) I ok, nb, up, sky, na, os, ag, w⟩
theorem comp_core {s : Shared} {H : Hp} {Q : VK} {elt tgx iter : Expr} {scope : Scope} {own : List (Str × Nat)} {pos pos' : Pos} {wi : TI} {g : TG} {te : WX → TE} {use : Option (Value → Sem Unit)} {Qf : Value → Shared → Prop}
    (tk : Takes X W) (hst : X.stack = X.env :: X.outer) (hf : X.env.frame = some X.env.locals) (hc : X.calm = true) (hN : X.N.Nodup) (I : Inv X pins σ H s) (hi : PI X tgx iter wi) (ok : BlkOk X.N X.env.scope scope own)
    (hg : ∀ (s : Shared) (H : Hp) (C : Addr) (cl : List (Str × Addr)) (fp : List Addr) (xe : Value → Shared → Prop), PG (blkX X s H scope (compEnvC scope cl C X.env) fp xe) tgx g)
    (he : ∀ (Wb : WX) (s : Shared) (H : Hp) (C : Addr) (cl : List (Str × Addr)) (fp : List Addr) (xe : Value → Shared → Prop), Takes (blkX X s H scope (compEnvC scope cl C X.env) fp xe) Wb → PE (blkX X s H scope (compEnvC scope cl C X.env) fp xe) elt (te Wb))
    (hs : ∀ x, foldedSetIterable iter X.env x = pure x) (h : tLc wi g tYes (te (wOf W σ)) (own.map (·.2)) σ H Q)
    (fin : ∀ D C s' m H', Inv X pins σ H' s' → Q (.ref D) H' → s'.heap.Ns C m → FpOk X pins H' C → compPost (model X.prog X.w) X.A X.xe use Qf (.ref D) C (.ok .next) s') :
    wpAny (model X.prog X.w) X.A (comprehension (.ListComp elt [⟨tgx, iter, [], 0⟩] scope pos) scope X.env pos' (newList []) false (eval iter X.env) use) Qf X.xe s := by
  have cells : ∀ y ∈ scope.names, y.2 = .free → ∃ c, X.env.cells.lookup y.1 = some c := fun y hy e => (ok.free y hy e).elim (fun k => I.ok.has _ (.inl k)) fun k => I.ok.has _ (.inr k)
  refine comp_open (use := use) rfl hs (closure_ok cells) ok.kind (fun y hy e => by rw [ok.uniq y hy, e]) ?_
  refine thn (hi.run pins s σ H _ I h) fun xv s1 hx => thn hx fun itv s2 h2 => ?_
  obtain ⟨it, fp, tn, J, H2, rfl, I2, T, st2, f2, q⟩ := h2
  apply wpAny_newObj_type
  case hd => show 0 ≤ sizeLine; decide
  apply newEnv_comp
  obtain ⟨D, hD⟩ : ∃ D, s2.heap.objs.size = D := ⟨_, rfl⟩
  rw [hD]
  have fresh : H2 D = none := I2.hok.fresh (Nat.le_of_eq hD)
  obtain ⟨Wi, ⟨m0, w0⟩, turn⟩ := q D fresh
  -- the list is laid
  obtain ⟨s3, hs3⟩ : ∃ s3 : Shared, ({ s2 with heap := s2.heap.push { cls := .type "list", data := .seq ([] : List Value).toArray } } : Shared) = s3 := ⟨_, rfl⟩
  have hp3 : s3.heap = s2.heap.push { cls := .type "list", data := .seq ([] : List Value).toArray } := by rw [← hs3]
  obtain ⟨H3, hH3⟩ : ∃ H3, upd H2 D (.lst []) = H3 := ⟨_, rfl⟩
  have I3 : Inv X pins σ H3 s3 := by
    rw [← hs3, ← hH3]
    refine I2.laid (t' := s2.toks) (fun b o e => Heap.get?_push_of_some _ e) (Nat.le_of_eq hD) ⟨Nat.zero_le _, [], 0, .nil, ?_⟩
    rw [← hD]
    exact Heap.get?_push_size _ rfl
  have old : ∀ b ∈ fp, b < s2.heap.objs.size := fun b hb => by
    obtain ⟨o, e, _⟩ := T.obj _ _ st2 b hb
    exact Heap.lt_size e
  have f3 : ∀ b ∈ fp, FpOk X pins H3 b ∧ b < s3.heap.objs.size := fun b hb => by
    have lt := old b hb
    refine ⟨⟨?_, (f2 b hb).2⟩, by rw [hp3, Heap.size_push]; exact Nat.lt_succ_of_lt lt⟩
    rw [← hH3, upd_ne (by rw [← hD]; exact Nat.ne_of_lt lt)]
    exact (f2 b hb).1
  have st3 : tn 0 s3.heap := T.keep _ _ _ st2 fun b _ o e => by rw [hp3]; exact Heap.get?_push_of_some _ e
  have I4 := block_start I3 ok hN f3
  have none3 : ∀ b ∈ fp, H3 b = none := fun b hb => (f3 b hb).1.1
  obtain ⟨ce, hce⟩ : ∃ ce, compEnvC scope (cellsFrom (s3.heap.objs.size + 1) scope.names (cloFrom X.env.cells scope.names [])) s3.heap.objs.size X.env = ce := ⟨_, rfl⟩
  have cL : ce.locals = s3.heap.objs.size := by subst hce; rfl
  have cf : ce.frame = X.env.frame := by subst hce; rfl
  have pg := hg s3 H3 s3.heap.objs.size (cellsFrom (s3.heap.objs.size + 1) scope.names (cloFrom X.env.cells scope.names [])) fp fun u s' => XE (X.blk s3 H3 scope ce fp) (wOf W σ) u s'
  have pe := he (wOf W σ) s3 H3 s3.heap.objs.size (cellsFrom (s3.heap.objs.size + 1) scope.names (cloFrom X.env.cells scope.names [])) fp fun u s' => XE (X.blk s3 H3 scope ce fp) (wOf W σ) u s'
  rw [hs3] at *
  rw [hce] at I4 pg pe
  have pe := pe (takesX (wOf W σ) I4.ok)
  obtain ⟨s4, hs4⟩ : ∃ s4 : Shared, ({ s3 with heap := pushCells (s3.heap.push { cls := .type "dict", data := .dict #[] }) scope.names } : Shared) = s4 := ⟨_, rfl⟩
  show codeAny (model X.prog X.w) X.A (.compStart (.ListComp elt [⟨tgx, iter, [], 0⟩] scope pos) 0 (.ref it) (.ref D) (compEnvC scope (cellsFrom (s3.heap.objs.size + 1) scope.names (cloFrom X.env.cells scope.names [])) s3.heap.objs.size X.env)) (compTo (model X.prog X.w) X.A X.xe use Qf (.ref D) s3.heap.objs.size X.env.frame) { s3 with heap := pushCells (s3.heap.push { cls := .type "dict", data := .dict #[] }) scope.names }
  rw [hce, hs4]
  rw [hs4] at I4
  have J4 : Inv (blkX X s3 H3 scope ce fp fun u s' => XE (X.blk s3 H3 scope ce fp) (wOf W σ) u s') [] (wipe σ (own.map (·.2))) H3 s4 := I4.toTry _
  generalize own.map (·.2) = vs at *
  have st4 : tn 0 s4.heap := T.keep _ _ _ st3 fun b _ o e => by rw [← hs4]; exact pushCells_keeps _ _ _ _ (Heap.get?_push_of_some _ e)
  have still : ∀ {σ' : L2.St} {H' : Hp} {s' : Shared}, Inv (blkX X s3 H3 scope ce fp fun u s' => XE (X.blk s3 H3 scope ce fp) (wOf W σ) u s') [] σ' H' s' → (∀ b ∈ fp, H' b = none) → ∀ b ∈ fp, FpOk (blkX X s3 H3 scope ce fp fun u s' => XE (X.blk s3 H3 scope ce fp) (wOf W σ) u s') [] H' b :=
    fun I' hn b hb => ⟨hn b hb, (I'.ok.exf b hb).1, I'.ok.exfs b hb, .inl hb, fun x c e => (I'.ok.exf b hb).2 x c e, fun p hp => absurd (show p ∈ ([] : List (Addr × Obj)) ++ [] from hp) (by simp)⟩
  have fly : ∀ u s', XE (X.blk s3 H3 scope ce fp) (wOf W σ) u s' → notedBy (model X.prog X.w) X.A ce (fun e s' => compTo (model X.prog X.w) X.A X.xe use Qf (.ref D) s3.heap.objs.size X.env.frame (.error e) s') u s' := fun u s' x => by
    have := out_of (use := use) (Qf := Qf) (acc := .ref D) tk hst hf cf cL I3 f3 x
    rw [cL, cf] at this
    exact this
  have loop : codeAny (model X.prog X.w) X.A (.compLoop (.ListComp elt [⟨tgx, iter, [], 0⟩] scope pos) 0 (.ref it) (.ref D) ce) (compTo (model X.prog X.w) X.A X.xe use Qf (.ref D) s3.heap.objs.size X.env.frame) s4 := by
    refine compLoop_any (fun n s' => ∃ i H', Inv (blkX X s3 H3 scope ce fp fun u s' => XE (X.blk s3 H3 scope ce fp) (wOf W σ) u s') [] (wipe σ vs) H' s' ∧ tn i s'.heap ∧ (∀ b ∈ fp, H' b = none) ∧ Wi i n H') ?_ m0 ⟨0, H3, J4, st4, none3, hH3 ▸ w0⟩
    rintro n s5 ⟨i, H5, I5, st5, n5, w5⟩
    rcases turn i n H5 w5 with ⟨stop, qq⟩ | ⟨go, Nx, hNx, step⟩
    · refine thnF (T.done (blkX X s3 H3 scope ce fp fun u s' => XE (X.blk s3 H3 scope ce fp) (wOf W σ) u s') rfl rfl rfl hc i [] s5 _ H5 (fun _ _ => False) I5 (still I5 n5) st5 stop) fun r s6 ⟨hr, I6⟩ => ?_
      subst hr
      have I7 : Inv X pins σ H5 s6 := I3.call' (ch := fp) I6.os I6.base I6.hok I6.bare fun b hb => ⟨(f3 b hb).1.2.2.2.1, (f3 b hb).1.2.1, (f3 b hb).1.2.2.2.2.1, (f3 b hb).1.2.2.2.2.2⟩
      have zC : H5 ce.locals = none := I6.free
      obtain ⟨m, hn, _⟩ := I6.loc
      have hn : s6.heap.Ns ce.locals m := hn
      rw [cL] at hn zC
      exact fin D s3.heap.objs.size s6 m H5 I7 qq hn (I3.fpOk (Nat.le_refl _) zC)
    · refine thnF (T.item (blkX X s3 H3 scope ce fp fun u s' => XE (X.blk s3 H3 scope ce fp) (wOf W σ) u s') rfl rfl rfl hc i [] s5 _ H5 (fun _ _ => False) I5 (still I5 n5) st5 go) fun r s6 ⟨u, hr, h6⟩ => ?_
      subst hr
      refine thnF h6 fun _ s7 ⟨x, H7, I7, r7, y7, st7, n7⟩ => ?_
      have P7 := I7.pinned (still I7 n7) (T.obj _ _ st7)
      refine wpAny_mono (pg.run _ s7 _ H7 x u _ P7 r7 (step x H7 y7)) (fun _ s8 ⟨σ8, H8, I8, hw8, q8⟩ => ?_) fly
      refine wpAny_tests_nil ?_
      have q8 : te (wOf W σ) σ8 H8 fun y H4 => ∃ acc, H4 D = some (.lst acc) ∧ acc.length < sizeLine ∧ Nx (upd H4 D (.lst (acc ++ [y]))) := q8
      refine wpAny_mono (pe.run _ s8 σ8 H8 _ I8 q8) (fun z s10 ⟨yv, H10, I10, r10, acc, hD10, hz10, nx⟩ => ?_) fly
      refine app_ok (X := blkX X s3 H3 scope ce fp fun u s' => XE (X.blk s3 H3 scope ce fp) (wOf W σ) u s') I10 hD10 hz10 r10 fun s11 I11 => ?_
      obtain ⟨m', hm, w'⟩ := hNx _ nx
      have kept : ∀ b ∈ fp, ∀ o, s7.heap.get? b = some o → s11.heap.get? b = some o ∧ upd H10 D (.lst (acc ++ [yv])) b = none := fun b hb o e =>
        have z := I11.pin (b, o) (List.mem_append_right _ (List.mem_append_right _ (mem_pinsAt hb e)))
        ⟨z.1, z.2.1⟩
      refine ⟨m', hm, i + 1, _, (I11.unpinned (pins := [])).weak (by rw [← hw8, wipe_length]) (fun j v e => ?_), T.keep _ _ _ st7 fun b hb o e => (kept b hb o e).1, fun b hb => ?_, w'⟩
      · rw [← hw8] at e
        exact (wipe_some e).1
      · obtain ⟨o, e, _⟩ := T.obj _ _ st7 b hb
        exact (kept b hb o e).2
  exact codeAny_compStart_list loop (T.self X.A 0 _ _ _ st4 loop)
/-- .. as a value -/
theorem pe_compX {elt tgx iter : Expr} {scope : Scope} {own : List (Str × Nat)} {pos : Pos} {wi : TI} {g : TG} {te : WX → TE} (tk : Takes X W) (hst : X.stack = X.env :: X.outer) (hf : X.env.frame = some X.env.locals) (hc : X.calm = true) (hN : X.N.Nodup) (hi : PI X tgx iter wi) (ok : BlkOk X.N X.env.scope scope own)
    (hg : ∀ (s : Shared) (H : Hp) (C : Addr) (cl : List (Str × Addr)) (fp : List Addr) (xe : Value → Shared → Prop), PG (blkX X s H scope (compEnvC scope cl C X.env) fp xe) tgx g)
    (he : ∀ (Wb : WX) (s : Shared) (H : Hp) (C : Addr) (cl : List (Str × Addr)) (fp : List Addr) (xe : Value → Shared → Prop), Takes (blkX X s H scope (compEnvC scope cl C X.env) fp xe) Wb → PE (blkX X s H scope (compEnvC scope cl C X.env) fp xe) elt (te Wb))
    (hs : ∀ x, foldedSetIterable iter X.env x = pure x) : PE X (.ListComp elt [⟨tgx, iter, [], 0⟩] scope pos) (fun σ H Q => tLc wi g tYes (te (wOf W σ)) (own.map (·.2)) σ H Q) := by
  refine ⟨fun pins s σ H Q I h => ?_⟩
  rw [eval_ListComp]
  refine comp_core tk hst hf hc hN I hi ok hg he hs h fun D C s' m H' I' q hn f => ⟨m, hn, fun h2 sb => ?_⟩
  obtain ⟨f0, f1, _, f3, f4, f5⟩ := f
  exact ⟨.ref D, H', I'.turned (t' := s'.toks) (fun b o hb e => (sb.2 b hb).trans e) f0 f1 f3 f4 f5, rfl, q⟩
end
section
variable {X : Cx} {W : WX} {l : List Nat} {τ : L2.St} {H : Hp}
/-- what is left agrees with the whole -/
def agree (r : R (List D)) (acc : List D) : R (List D) → Prop
  | .ok rest hf => r = .ok (acc ++ rest) hf
  | .ex c fs hf => r = .ex c fs hf
  | .bad => False
theorem compX_run {e : E} {tg : List Nat} {src : Mp.It} {Q : VK} (q : tM X W l (.compX e tg src) τ H Q) : tLc (iM X W l src) (tgM X.K tg) tYes (tM X (wOf W τ) l e) tg τ H Q := by
  obtain ⟨φ, χ, σ, h, rs, hr, o⟩ := q
  unfold evE at o
  refine ⟨φ, χ, σ, h, rs, hr, o.bind.mono fun φ1 χ1 H1 dw h1 _ x1 hr1 g J sj => ?_⟩
  have g2 : dw.1.length < sizeLine ∧ Out X W l τ φ1 χ1 H1 ((compL dw.2 (itemK tg σ true (fun _ h => .ok .non h) (evE l e)) dw.1 h1).bind fun ds h => .ok (.lst ds) h) fun φ' χ' H' d h' => ∀ (v : V), RVf (E.compX e tg src).fresh X.K H φ' χ' H' d v → Q v H' := by
    split at g
    · rename_i hl; exact ⟨hl, g⟩
    · exact g.elim
  obtain ⟨hl, g⟩ := g2
  intro Da hD
  obtain ⟨F, hF⟩ : ∃ F, itemK tg σ true (fun _ h => .ok .non h) (evE l e) = F := ⟨_, rfl⟩
  rw [hF] at g
  obtain ⟨r, er⟩ : ∃ r, compL dw.2 F dw.1 h1 = r := ⟨_, rfl⟩
  rw [er] at g
  have a0 : agree r [] (compL dw.2 F (dw.1.drop 0) h1) := by
    rw [List.drop_zero, er]
    cases r with
    | ok ds hf => rfl
    | ex c fs hf => rfl
    | bad => exact g.elim
  refine ⟨fun i m H' => ∃ φ2 χ2 h2 acc vs, Ext φ1 χ1 H1 φ2 χ2 H' ∧ Da ∉ φ2 ∧ χ2 Da ∧ H' Da = some (.lst vs) ∧ HR X.K X.mg φ2 χ2 H' l h2 ∧ RVs X.K φ2 χ2 H' acc vs ∧ acc.length = i ∧ m = dw.1.length - i ∧ i ≤ dw.1.length ∧ agree r acc (compL dw.2 F (dw.1.drop i) h2),
    ⟨_, φ1, _, h1, [], [], Ext.newL hD, (fun ha => by obtain ⟨u, q⟩ := hr1.heap ha; rw [hD] at q; cases q), .inr rfl, upd_same, hr1.newL hD, .nil, rfl, rfl, Nat.zero_le _, a0⟩, ?_⟩
  rintro i m H' ⟨φ2, χ2, h2, acc, vs, x2, d1, d2, d3, hr2, ra, la, rfl, hi, ag⟩
  by_cases hlt : i < dw.1.length
  · rw [List.drop_eq_getElem_cons hlt] at ag
    have w : watch dw.2 h2 := by
      by_cases w : watch dw.2 h2
      · exact w
      · unfold compL ifW at ag
        rw [if_neg w] at ag
        exact ag.elim
    have ag : agree r acc ((F dw.1[i] h2).bind fun o h' => (compL dw.2 F (dw.1.drop (i + 1)) h').bind fun xs h'' => .ok (match o with | some x => x :: xs | none => xs) h'') := by
      unfold compL ifW at ag
      rw [if_pos w] at ag
      exact ag
    obtain ⟨k1, _⟩ := sj φ2 χ2 H' h2 x2 hr2 w
    obtain ⟨go, k2⟩ := k1 i _ (List.getElem?_eq_getElem hlt)
    refine .inr ⟨go, _, fun H' q => ⟨dw.1.length - (i + 1), by omega, q⟩, fun x H3 y => ?_⟩
    obtain ⟨x3, hr3, rv⟩ := k2 x H3 y
    rw [← hF] at ag
    simp only [itemK, bindT] at ag
    cases et : target h2 tg dw.1[i] (killAll σ tg) with
    | none => rw [et] at ag; exact ag.elim
    | some σ3 =>
      rw [et] at ag
      simp only at ag
      have rs3 : RS X.K φ2 χ2 H3 (killAll σ tg) (L2.wipe τ tg) := ((rs.ext (x1.trans (x2.trans x3))).wipe tg)
      have d3' : H3 Da = some (.lst vs) := x3.kp _ _ d1 d3
      refine tgM_runW (h := h2) rs3 rv et fun τ3 rs4 ew => ⟨ew.trans wipe_idem, ?_⟩
      show tM X (wOf W τ) l e τ3 H3 _
      refine tM.to rs4 hr3 ?_
      cases ev : evE l e σ3 h2 with
      | bad => rw [ev] at ag; exact ag.elim
      | ex c fs h5 =>
        rw [ev] at ag
        have ag : r = .ex c fs h5 := ag
        rw [ag] at g
        intro φ5 χ5 H5 cls dd x5 hr5 xv
        exact g φ5 χ5 H5 cls dd (x2.trans (x3.trans x5)) hr5 xv
      | ok y h5 =>
        rw [ev] at ag
        simp only [R.bind_ok, if_true] at ag
        intro φ5 χ5 H5 x5 hr5 _ _ v rv5
        have n5 : Da ∉ φ5 := fun ha => by have := x5.fr Da ha d1; rw [d3'] at this; cases this
        have d5 : H5 Da = some (.lst vs) := x5.kp _ _ d1 d3'
        have c5 : χ5 Da := x5.sub _ d2
        obtain ⟨xw, hr6⟩ := wr_apart (ws := vs ++ [v]) hr5 c5 n5 d5
        refine ⟨vs, d5, by have := ra.length; omega, φ5, χ5, h5, acc ++ [y], vs ++ [v], (x2.trans (x3.trans x5)).wr_new hD, n5, c5, upd_same, hr6, (((ra.ext x3).ext x5).append (.cons rv5 .nil)).extW xw, by rw [List.length_append, la]; rfl, rfl, hlt, ?_⟩
        rw [hF] at ag
        cases e2 : compL dw.2 F (dw.1.drop (i + 1)) h5 with
        | bad => rw [e2] at ag; exact ag.elim
        | ex c fs hf => rw [e2] at ag; exact ag
        | ok xs hf =>
          rw [e2] at ag
          have ag : r = .ok (acc ++ y :: xs) hf := ag
          show r = .ok (acc ++ [y] ++ xs) hf
          rw [ag, List.append_assoc]; rfl
  · have ei : i = dw.1.length := by omega
    subst ei
    rw [List.drop_length] at ag
    have w : watch dw.2 h2 := by
      by_cases w : watch dw.2 h2
      · exact w
      · unfold compL ifW at ag
        rw [if_neg w] at ag
        exact ag.elim
    have ag : r = .ok acc h2 := by
      unfold compL ifW at ag
      rw [if_pos w] at ag
      have ag : r = .ok (acc ++ []) h2 := ag
      rwa [List.append_nil] at ag
    rw [ag] at g
    obtain ⟨_, k2⟩ := sj φ2 χ2 H' h2 x2 hr2 w
    exact .inl ⟨k2, g _ _ _ x2 hr2 _ (.new rfl d2 d1 (x1.back hr1 hr hD) d3 ra)⟩
theorem m_compX {elt tgx iter : Expr} {scope : Scope} {own : List (Str × Nat)} {pos : Pos} {e : E} {tg : List Nat} {src : Mp.It} (tk : Takes X W) (hst : X.stack = X.env :: X.outer) (hf : X.env.frame = some X.env.locals) (hc : X.calm = true) (hN : X.N.Nodup) (hi : PI X tgx iter (iM X W l src)) (ok : BlkOk X.N X.env.scope scope own) (ho : own.map (·.2) = tg)
    (hg : ∀ (s : Shared) (H : Hp) (C : Addr) (cl : List (Str × Addr)) (fp : List Addr) (xe : Value → Shared → Prop), PG (blkX X s H scope (compEnvC scope cl C X.env) fp xe) tgx (tgM X.K tg))
    (he : ∀ (Wb : WX) (s : Shared) (H : Hp) (C : Addr) (cl : List (Str × Addr)) (fp : List Addr) (xe : Value → Shared → Prop), Takes (blkX X s H scope (compEnvC scope cl C X.env) fp xe) Wb → PE (blkX X s H scope (compEnvC scope cl C X.env) fp xe) elt (tM X Wb l e))
    (hs : ∀ x, foldedSetIterable iter X.env x = pure x) : PE X (.ListComp elt [⟨tgx, iter, [], 0⟩] scope pos) (tM X W l (.compX e tg src)) :=
  peImp (pe_compX (te := fun Wb => tM X Wb l e) tk hst hf hc hN hi ok hg he hs) fun τ H Q q => by rw [ho]; exact compX_run q
end
end Mp

set_option maxRecDepth 100000
set_option maxHeartbeats 3200000
/-! Mp2j: sorted(set(ns)), ns a list of ints. -/
namespace L2S
open PySem PySem.Spec PyProof.Rows L2 PySem.Calls
/-- a set of nothing yet -/
abbrev noSet_ (w : World) : Obj := { cls := .type "set", dict := none, data := .set #[] 0 (.fresh 0 0 (!w.params.followText "set-order")) }
section
variable {P : Program} {w : World} {A : Around} {E : Value → Shared → Prop} {s : Shared}
/-- what set(xs) leaves: the set at the heap's end -/
abbrev SetOut (w : World) (s : Shared) (ns : List Int) (h' : Heap) (c : Nat) : Prop := SetR w h' s.heap.objs.size (fun j => decide (j ∈ ns)) c ∧ c ≤ ns.length ∧ ∀ b o, s.heap.get? b = some o → h'.get? b = some o
theorem set_of_list {l : Addr} {xs : Array Value} (ns : List Int) {Q : Value → Shared → Prop} (hh : A.handled = none) (hl : s.heap.IsList l xs) (hx : IntsAre xs.toList ns) (few : ns.length + 1 < scanBound)
    (h : ∀ (h' : Heap) (tk c : Nat), SetOut w s ns h' c → Q (.ref s.heap.objs.size) { s with heap := h', toks := tk }) : wpAny (model P w) A (call (.type "set") [.ref l]) Q E s := by
  have size : xs.size = ns.length := by
    rw [← Array.length_toList]
    exact IntsAre.length hx
  obtain ⟨c, tl, mro⟩ := F.called_set.mro
  have f1 := F.called_set.made
  have f2 := F.called_set.sub
  have f3 := F.called_set.notType
  have f4 := F.called_set.canCreate
  have f5 := F.typeCall_set_1 (.ref l)
  apply wpAny_call
  apply codeAny_of_tree
  show wpAny _ _ (callAny (.type "set") _) _ _ _
  refine wpAny_pure ⟨Code.quiet_builtin _ (by decide +kernel), ?_⟩
  apply codeAny_builtin F.entry_type_call
  rw [Around.under_plain (weight_type_call_type "set" [.ref l] []) rfl]
  repeat (any_goals (first | assumption | wp_step))
  refine codeAny_mono (code_set_led1 (.ref l) (E := E) (Q₁ := fun v s₁ => v = .ref s.heap.objs.size ∧ s₁ = { s with heap := s.heap.push (noSet_ w) }) ⟨rfl, rfl⟩) fun r s₁ hr => ?_
  match r, hr with
  | .error _, hr => exact hr
  | .ok .next, hr => exact hr.elim
  | .ok .brk, hr => exact hr.elim
  | .ok .cont, hr => exact hr.elim
  | .ok (.ret v), hr =>
    obtain ⟨rfl, rfl⟩ := hr
    have at0 : (s.heap.push (noSet_ w)).get? s.heap.objs.size = some (noSet_ w) := Heap.get?_push_size _ rfl
    have ty : Shared.TypeIs { s with heap := s.heap.push (noSet_ w) } (.ref s.heap.objs.size) "set" := ⟨_, at0, rfl⟩
    have g1 := F.called_set.init.lookup
    have g2 := F.called_set.init.bind (.ref s.heap.objs.size)
    repeat (any_goals (first | assumption | wp_step))
    refine codeAny_mono (codeAny_call_builtin (R := wants (fun r s₂ => r = .none ∧ ∃ h' tk c, s₂ = { s with heap := h', toks := tk } ∧ SetOut w s ns h' c) E) F.called_set.init.plain F.entry_set_init (check_set_init_1 ty ?_)) fun r₂ s₂ hr₂ => ?_
    · obtain ⟨ol, hol, hcl, nl, hdl⟩ := hl
      obtain ⟨k1, k2, k3, k4⟩ := ol
      obtain rfl : k1 = .type "list" := hcl
      obtain rfl : k3 = .seq xs nl := hdl
      have there := Heap.get?_push_of_some (noSet_ w) hol
      have n1 := F.sub_list_set
      have n2 := F.sub_list_frozenset
      have n3 : (Value.type "list" == Value.type "dict") = false := by decide
      have isl : (s.heap.push (noSet_ w)).IsList l xs := ⟨_, there, rfl, nl, rfl⟩
      unfold Builtin.«set.__init__» noKeywords Builtin.Frozenset.updateFrom
      generalize hPI : pyIter = PI
      wp_walk
      subst hPI
      refine wpAny_pyIter_list isl ?_
      refine wpAny_bind (wpAny_runValue ?_)
      have lt : l < s.heap.objs.size := Heap.lt_size hol
      have sz : (s.heap.push (noSet_ w)).objs.size = s.heap.objs.size + 1 := Heap.size_push ..
      have ne1 : l ≠ (s.heap.push (noSet_ w)).objs.size := by rw [sz]; exact Nat.ne_of_lt (Nat.lt_succ_of_lt lt)
      have ne2 : s.heap.objs.size ∉ [(s.heap.push (noSet_ w)).objs.size, l] := by
        rw [sz]
        intro hm
        rcases List.mem_cons.mp hm with q | q
        · exact Nat.ne_of_lt (Nat.lt_succ_self _) q
        · exact Nat.ne_of_gt lt (List.mem_singleton.mp q)
      have vals : ∀ (i : Nat) (v : Value), xs[i]? = some v → ∃ k t, ns[i]? = some k ∧ v = .int k t := fun i v hv => by
        have hi : i < ns.length := size ▸ (Array.getElem?_eq_some_iff.mp hv).1
        obtain ⟨t, e⟩ := IntsAre.int_at hx i v (by rw [Array.getElem?_toList]; exact hv)
        refine ⟨ns[i], t, List.getElem?_eq_getElem hi, ?_⟩
        rw [e, List.getD_eq_getElem?_getD, List.getElem?_eq_getElem hi]
        first | rfl | done
      refine set_update_ints ((Walks.list (by simp [hh]) _ l ne1 xs).toS) s.heap.objs.size ne2 ns size few vals (xs.size - 0) 0 _ (by omega) (Nat.zero_le _) ⟨⟨_, Heap.get?_push_size _ rfl, rfl, rfl⟩, (isl.push _)⟩ ?_ ?_
      · exact ⟨0, Nat.le_refl 0, setR_new_at (Heap.get?_push_of_some _ at0)⟩
      · intro s' c' hm hc' hS'
        obtain ⟨h', g', d', tk', os'⟩ := s'
        obtain rfl : g' = s.gens := hm.gens
        obtain rfl : d' = s.drawn := hm.drawn
        obtain rfl : os' = s.os := hm.os
        show wpAny _ _ _ _ _ _
        apply wpAny_pure
        show wpAny _ _ (ret Value.none) _ _ _
        rw [size] at hc'
        refine wpAny_pure ⟨rfl, h', tk', c', rfl, hS', hc', fun b o e => ?_⟩
        have old : b < s.heap.objs.size := Heap.lt_size e
        refine hm.heap b o (fun hmem => ?_) (Heap.get?_push_of_some _ (Heap.get?_push_of_some _ e))
        rcases List.mem_cons.mp hmem with q | q
        · exact Nat.ne_of_lt old q
        · rw [List.mem_singleton.mp q, sz] at old
          exact absurd old (Nat.not_lt.mpr (Nat.le_succ _))
    · match r₂, hr₂ with
      | .error _, hr₂ => exact hr₂
      | .ok .next, hr₂ => exact hr₂.elim
      | .ok .brk, hr₂ => exact hr₂.elim
      | .ok .cont, hr₂ => exact hr₂.elim
      | .ok (.ret r), hr₂ =>
        obtain ⟨rfl, h', tk, c', rfl, out⟩ := hr₂
        repeat (any_goals (first | assumption | wp_step))
        exact h _ _ _ out
end
end L2S

namespace Mp
open PySem PySem.Spec PyProof.Rows L2
theorem mem_dedup {x : Int} : ∀ {xs : List Int}, x ∈ dedup xs ↔ x ∈ xs
  | [] => by simp [dedup]
  | y :: ys => by
    unfold dedup
    rw [List.mem_cons, List.mem_filter, mem_dedup (xs := ys), List.mem_cons]
    constructor
    · rintro (h | ⟨h, _⟩)
      · exact .inl h
      · exact .inr h
    · intro h
      by_cases e : x = y
      · exact .inl e
      · exact .inr ⟨h.resolve_left e, by simpa using e⟩
theorem nodup_dedup : ∀ xs : List Int, (dedup xs).Nodup
  | [] => by simp [dedup]
  | y :: ys => by
    unfold dedup
    refine List.nodup_cons.mpr ⟨fun h => ?_, (nodup_dedup ys).filter _⟩
    have := (List.mem_filter.mp h).2
    simp at this
theorem sortSet_eq {ns ms : List Int} (h1 : ms.Pairwise (· < ·)) (h2 : ∀ k, k ∈ ms ↔ k ∈ ns) : ms = sortI (dedup ns) := by
  have le : ms.Pairwise (· ≤ ·) := h1.imp fun h => Int.le_of_lt h
  have nd : ms.Nodup := h1.imp fun h e => by subst e; exact Int.lt_irrefl _ h
  refine sorted_eq ?_ le (sort_sorted _)
  refine ((List.perm_ext_iff_of_nodup nd (nodup_dedup ns)).mpr fun k => ?_).trans (sort_perm _).symm
  rw [h2, mem_dedup]
def rSetL (K : PySem.W.Frag) (w : World) : List V → Hp → VK → Prop := fun vs H Q => ∃ (p : Addr) (ns : List Int), vs = [.ref p] ∧ (SqL K H p (ns.map V.int) ∨ SqT K H p (ns.map V.int)) ∧ ns.length ≤ 1000 ∧ ∀ a c, H a = none → c ≤ ns.length → Q (.ref a) (upd H a (SetO w a (fun j => decide (j ∈ ns)) c))
section
variable {X : Cx} {W : WX} {l : List Nat}
theorem cr_setL (hc : X.calm = true) : CallR X (.type "set") (rSetL X.K X.w) := by
  intro pins s σ H xs us Q I r h
  obtain ⟨p, ns, rfl, hs, hl, q⟩ := h
  rw [Vals.ref1 r]
  rcases hs with hs | hs
  rotate_left
  · obtain ⟨its, rv, pt, hz⟩ := I.tuple hs
    refine call_set_tupI ns (I.ok.hd hc) (show s.heap.IsTuple p its.toArray from pt) (ints_of_vals rv) (by unfold scanBound; omega) fun h' tk c R hcl k => ?_
    exact ⟨.ref _, upd H s.heap.objs.size (SetO X.w s.heap.objs.size (fun j => decide (j ∈ ns)) c), I.laid (t' := tk) k (Nat.le_refl _) (setO_new R), rfl, q _ _ (I.hok.fresh (Nat.le_refl _)) hcl⟩
  obtain ⟨its, rv, pl, hz⟩ := I.list hs
  refine L2S.set_of_list ns (I.ok.hd hc) pl.isList (ints_of_vals rv) (by unfold scanBound; omega) fun h' tk c ⟨R, hcl, k⟩ => ?_
  exact ⟨.ref _, upd H s.heap.objs.size (SetO X.w s.heap.objs.size (fun j => decide (j ∈ ns)) c), I.laid (t' := tk) k (Nat.le_refl _) (setO_new R), rfl, q _ _ (I.hok.fresh (Nat.le_refl _)) hcl⟩
theorem RV.intsU {K : PySem.W.Frag} {mg : Str → Option Value} {φ : List Addr} {χ : Ads} {H : Hp} {h : Hh} (hr : HR K mg φ χ H l h) {d : D} {v : V} {ns : List Int} (rv : RV K φ χ H d v) (e : (Mp.seqOf h d).bind intsOf = some ns) : ∃ a, v = .ref a ∧ (SqL K H a (ns.map V.int) ∨ SqT K H a (ns.map V.int)) := by
  cases g : Mp.seqOf h d with
  | none => rw [g] at e; cases e
  | some ds =>
    rw [g] at e
    obtain ⟨a, vs, rfl, q, r⟩ := rv.seqOf hr g
    have := r.intsOf (show intsOf ds = some ns from e)
    rw [this] at q
    exact ⟨a, rfl, q⟩
theorem ok_sortedSet : BltOk X W l .sortedSet (fun vs H Q => rSetL X.K X.w vs H fun x H2 => rSortedSet X.w [x] H2 Q) := fun τ φ χ H H0 h ds vs Q hr rs fr o => by
  unfold blt b_sortedSet at o
  simp only at o
  split at o <;> first | exact o.elim | skip
  rename_i d hb
  obtain ⟨v, rfl, r⟩ := rs.one
  split at o
  · rename_i ns e
    split at o
    · rename_i few
      obtain ⟨a, rfl, q⟩ := RV.intsU hr r e
      refine ⟨a, ns, rfl, q, by omega, fun b c hb hcl => ⟨b, _, c, rfl, upd_same, by omega, fun ms p so mem _ hp => ?_⟩⟩
      rw [sortSet_eq (ns := ns) so fun k => (mem k).trans (by simp)]
      have x : Ext φ χ H φ χ (upd H b (SetO X.w b (fun j => decide (j ∈ ns)) c)) := Ext.refl.wr_new hb
      have ne : ∀ {b' : Addr} {u : HO}, H b' = some u → b' ≠ b := fun q => ne_of_none q hb
      have hr2 : HR X.K X.mg φ χ (upd H b (SetO X.w b (fun j => decide (j ∈ ns)) c)) l h := hr.ext x (fun a ha => upd_ne (by obtain ⟨u, e⟩ := hr.heap ha; exact ne e)) fun a q => by
        by_cases e : a = b
        · rw [e, upd_same]; simp
        · rw [upd_ne e]; exact hr.ch a q
      refine Out.new (H0 := H0) (fr := true) hr2 (RVs.ints _) hp (fr p ?_) (o.later x)
      by_cases e : p = b
      · rw [e, upd_same] at hp; cases hp
      · rw [upd_ne e] at hp; exact hp
    · exact o.elim
  · exact o.elim
theorem m_sortedSet {a : Expr} {ea : E} {p p2 q pos : Pos} (hc : X.calm = true) (hgs : Gl X "set") (hms : X.mg "set" = none) (hg : Gl X "sorted") (hm : X.mg "sorted" = none) (ha : PE X a (tM X W l ea)) (na : starEach [a] X.env = (false, eval a X.env) :: starEach [] X.env) :
    PE X (.Call (.Name "sorted" p) [.Call (.Name "set" p2) [a] [] q] [] pos) (tM X W l (.blt .sortedSet (.cons ea .nil))) :=
  peImp (pe_callB (cr_sortedSet hc) hg hm boot_sorted (pa_cons (pe_callTy (cr_setL hc) hgs hms boot_set (pa_cons (hs := na) ha pa_nil) (by decide) (by decide) na rfl) pa_nil) (by decide) (by decide) rfl rfl) fun τ H Q z => by
    have z := tMs.run1 (show tMs X W l (.cons ea .nil) τ H fun vs H1 => rSetL X.K X.w vs H1 fun x H2 => rSortedSet X.w [x] H2 Q from tM.bltR ok_sortedSet τ H Q z)
    exact z
end
end Mp

set_option maxRecDepth 100000
/-! Mp4a: defs and their calls. -/
namespace Mp
open PySem PySem.Spec PyProof.Rows L2

/-- room for calls; hot: within an except suite -/
structure Rm (t : Bool) (k : Nat) (A : Around) : Prop where
  hd : t = false → A.handled = none
  dp : A.depth + 3 * k + 5 < recursionLimit
  un : A.units + 16 * k + 200 < cLine
theorem Rm.mono {t : Bool} {j k : Nat} {A : Around} (r : Rm t k A) (h : j ≤ k) : Rm t j A := ⟨r.hd, by have := r.dp; omega, by have := r.un; omega⟩
theorem Rm.deeper {t : Bool} {k : Nat} {A : Around} (r : Rm t (k + 1) A) (env : Env) : Rm t k (A.deeper env) :=
  ⟨fun e => r.hd e, by have := r.dp; show A.depth + 1 + 3 * k + 5 < _; omega, by have := r.un; show A.units + 3 + 16 * k + 200 < _; omega⟩
theorem Rm.depth {t : Bool} {k : Nat} {A : Around} (r : Rm t k A) : A.depth < recursionLimit := by have := r.dp; omega
theorem Rm.room {k : Nat} {A : Around} (r : Rm false k A) : Room k A := ⟨r.hd rfl, r.dp, r.un⟩
theorem rm_of {k : Nat} {A : Around} (r : Room k A) : Rm false k A := ⟨fun _ => r.hd, r.dp, r.un⟩
theorem Rm.hot {t : Bool} {k : Nat} {A : Around} (r : Rm t k A) (v : Option Value) : Rm true k (A.mark v) := ⟨(fun z => nomatch z), r.dp, r.un⟩
/-- a call's outcome, as its caller sees it -/
def OutK (K : PySem.W.Frag) (mg : Str → Option Value) (E : XK) (l : List Nat) (φ : List Addr) (χ : Ads) (H : Hp) (r : R D) (Q : VK) : Prop := match r with
  | .ok d h' => ∀ φ' χ' H', Ext φ χ H φ' χ' H' → HR K mg φ' χ' H' l h' → ∀ v, RV K φ' χ' H' d v → Q v H'
  | .ex c fs h' => ∀ φ' χ' H' cls dd, Ext φ χ H φ' χ' H' → HR K mg φ' χ' H' l h' → XV K mg φ' χ' H' c fs cls dd → E cls dd H'
  | .bad => False
/-- a def's promise -/
def spM (K : PySem.W.Frag) (mg : Str → Option Value) (l : List Nat) (f : Fn) : Sp := fun vs H Q E =>
  ∃ φ χ h ds, RVs K φ χ H ds vs ∧ HR K mg φ χ H l h ∧ OutK K mg E l φ χ H (callF l f ds h) Q
def Fn.np : Fn → Nat
  | .mk np _ _ _ => np
def Fn.ns : Fn → Nat
  | .mk _ ns _ _ => ns
def Fn.keep : Fn → Bool
  | .mk _ _ k _ => k
def Fn.body : Fn → SL
  | .mk _ _ _ b => b
/-- it runs as its term says, k calls deep at most -/
structure FnG (P : Program) (w : World) (K : PySem.W.Frag) (mg : Str → Option Value) (base : Heap) (t : Bool) (k : Nat) (a : Addr) (fd : FuncData) (ps : List Str) (f : Fn) : Prop where
  np : f.np = ps.length
  go : ∀ (l : List Nat) (A : Around) (outer : List Env) (s : Shared) (H : Hp) (args : Args) (us : List Value) (vs : List V) (Q : VK) (E : XK), Rm t k A → A.guards = some [] → Env0 P w K mg base A outer s H →
    BindsTo s fd args (ps.zip us) → Vals vs us → spM K mg l f vs H Q E → codeAny (model P w) A (.call (.ref a) args) (CR (L2.CX P w) outer P w H s Q E) s
section
variable {P : Program} {w : World} {K : PySem.W.Frag} {mg : Str → Option Value} {base : Heap} {t : Bool} {k j : Nat} {a : Addr} {fd : FuncData} {ps : List Str} {f : Fn}
theorem FnG.mono (g : FnG P w K mg base t j a fd ps f) (hjk : j ≤ k) : FnG P w K mg base t k a fd ps f :=
  ⟨g.np, fun l A outer s H args us vs Q E room gu e0 bt rv h => g.go l A outer s H args us vs Q E (room.mono hjk) gu e0 bt rv h⟩
end
/-- a name that holds a def -/
structure CallOk (P : Program) (w : World) (K : PySem.W.Frag) (mg : Str → Option Value) (base : Heap) (t : Bool) (k : Nat) (x : String) (f : Fn) : Prop where
  ex : ∃ (a : Addr) (fd : FuncData) (ps : List Str), mg (Str.ofString x) = some (.ref a) ∧ PySem.W.keepIn K (.ref a) = true ∧ Binds K fd ps [] ∧ FnG P w K mg base t k a fd ps f

section
variable {X : Cx} {W : WX} {l : List Nat} {τ : L2.St} {φ φ' φ1 : List Addr} {χ χ' χ1 : Ads} {H H' H1 H0 : Hp} {h h' : Hh} {α β : Type} {K : PySem.W.Frag} {mg : Str → Option Value} {t : Bool} {k : Nat}
theorem callF_np {f : Fn} {ds : List D} (e : callF l f ds h ≠ .bad) : ds.length = f.np := by
  cases f with
  | mk np ns keep body =>
    unfold callF at e
    split at e
    · rename_i q; exact q.1
    · exact absurd rfl e
theorem OutK.ok {E : XK} {r : R D} {Q : VK} (o : OutK K mg E l φ χ H r Q) : r ≠ .bad := by
  rintro rfl
  exact o
theorem run_g {a : Addr} {fd : FuncData} {ps : List Str} {f : Fn} (g : FnG X.prog X.w X.K X.mg X.base t k a fd ps f) (room : Rm t k X.A) (gu : X.A.guards = some []) (bd : Binds X.K fd ps []) (tk : Takes X W)
    {pins : List (Addr × Obj)} {s : Shared} {Q : VK} {us : List Value} {vs : List V} (I : Inv X pins τ H s) (rv : Vals vs us) (sp : spM X.K X.mg l f vs H Q (WE W τ)) : wpAny (model X.prog X.w) X.A (call (.ref a) us) (EP X pins τ Q) X.xe s := by
  have hl : us.length = ps.length := by
    obtain ⟨φ, χ, h, ds, rvs, _, o⟩ := sp
    rw [← rv.length, ← rvs.length, callF_np o.ok, g.np]
  have bt := bd s us I.kIn (by simpa using hl)
  simp only [List.append_nil] at bt
  refine wpAny_call (codeAny_mono (g.go l X.A X.stack s H ⟨us, []⟩ us vs Q (WE W τ) room gu I.env0 bt rv sp) fun r s' out => ?_)
  match r, out with
  | .error e, out => exact passAt tk τ pins H s e s' I out
  | .ok (.ret u), out => exact I.after out
def tCallG (X : Cx) (W : WX) (l : List Nat) (f : Fn) (t : TA) : TE := fun σ H Q => t σ H fun vs H1 => spM X.K X.mg l f vs H1 Q (WE W σ)
theorem tM.call {x : String} {f : Fn} {es : EL} : ∀ τ H Q, tM X W l (.call x f es) τ H Q → tCallG X W l f (tMs X W l es) τ H Q := by
  intro τ H Q ⟨φ, χ, σ, h, rs, hr, o⟩
  unfold evE at o
  refine tMs.of rs hr (o.bind.mono fun φ1 χ1 H1 ds h1 _ x1 _ g1 _ hr1 vs rvs => ⟨φ1, χ1, h1, ds, rvs, hr1, ?_⟩)
  cases e : callF l f ds h1 with
  | bad => rw [e] at g1; exact g1
  | ex c fs h' => rw [e] at g1; exact g1
  | ok d h' =>
    rw [e] at g1
    exact fun φ' χ' H' x2 hr2 v rv => g1 φ' χ' H' x2 hr2 v (.plain rv fun q => nomatch q)
theorem m_call {x : String} {f : Fn} {es : EL} {p pos : Pos} {e : Expr} {as : List Expr} (c : CallOk X.prog X.w X.K X.mg X.base t k x f) (room : Rm t k X.A) (gu : X.A.guards = some []) (tk : Takes X W) (hg : Gl X (Str.ofString x)) (hd : (Str.ofString x == ("__debug__" : Str)) = false)
    (ha : PA X (e :: as) (tMs X W l es)) (he : starEach (e :: as) X.env = (false, eval e X.env) :: starEach as X.env) (hpl : (backTo pos (starEach as X.env)).any (·.1) = false) : PE X (.Call (.Name (Str.ofString x) p) (e :: as) [] pos) (tM X W l (.call x f es)) := by
  obtain ⟨a, fd, ps, hm, hk, bd, g⟩ := c.ex
  refine peImp (t := tCallG X W l f (tMs X W l es)) ⟨fun pins s σ H Q I q => ?_⟩ tM.call
  exact wpAny_Call_Name_kw (ld_glob I hg hm (PySem.W.callWith_K (h₀ := X.base) I.ok.mod.kin hk (thn (ha.run pos pins s σ H _ I q) fun us s1 ⟨vs, H1, I1, rv, sp⟩ => ⟨I1.kIn, run_g g room gu bd tk I1 rv sp⟩) he hpl) hd)
theorem m_call0 {x : String} {f : Fn} {p pos : Pos} (c : CallOk X.prog X.w X.K X.mg X.base t k x f) (room : Rm t k X.A) (gu : X.A.guards = some []) (tk : Takes X W) (hg : Gl X (Str.ofString x)) (hd : (Str.ofString x == ("__debug__" : Str)) = false) :
    PE X (.Call (.Name (Str.ofString x) p) [] [] pos) (tM X W l (.call x f .nil)) := by
  obtain ⟨a, fd, ps, hm, hk, bd, g⟩ := c.ex
  refine peImp (t := tCallG X W l f (tMs X W l .nil)) ⟨fun pins s σ H Q I q => ?_⟩ tM.call
  have sp : spM X.K X.mg l f [] H Q (WE W σ) := by
    obtain ⟨φ, χ, σ', h, rs, hr, o⟩ := q
    unfold evL at o
    exact o _ _ _ .refl hr [] .nil
  exact wpAny_Call_Name_kw (ld_glob I hg hm (PySem.W.callWith_K0 I.kIn hk (run_g (us := []) g room gu bd tk I .nil sp)) hd)

/-! ### a def keeps its promise -/
theorem unds_of (hr : HR K mg φ χ H l h) : ∀ (n : Nat) (ds : List D), h[n]? = some (.lst ds) → D.unds h.length ds = true := fun n ds e => by
  have hn := (List.getElem?_eq_some_iff.mp e).1
  obtain ⟨a, ha⟩ : ∃ a, φ[n]? = some a := ⟨φ[n]'(by rw [hr.len]; exact hn), List.getElem?_eq_getElem _⟩
  cases hr.ob n a _ ha e with
  | lst _ r => rw [← hr.len]; exact r.und
/-- within: a region of its own -/
theorem HR.enter (hr : HR K mg φ χ H l h) : HR K mg φ χ H (h.length :: l) h := by
  refine ⟨hr.len, hr.nd, hr.sub, hr.ob, fun b hb n o hn e => ?_, fun b hb => ?_, hr.ch⟩
  · rcases List.mem_cons.mp hb with q | q
    · subst q
      have hn' := (List.getElem?_eq_some_iff.mp e).1
      obtain ⟨a, ha⟩ : ∃ a, φ[n]? = some a := ⟨φ[n]'(by rw [hr.len]; exact hn'), List.getElem?_eq_getElem _⟩
      cases hr.ob n a _ ha e with
      | lst _ r => show D.unds h.length _ = true; rw [← hr.len]; exact r.und
      | dk _ _ r => exact fun p hp => unds_all.mp (by rw [← hr.len]; exact r.und) p.2 (List.mem_map_of_mem hp)
      | ins _ _ e3 r => exact fun p hp => unds_all.mp (by rw [← hr.len]; exact r.und) p.2 (List.mem_map_of_mem hp)
    · exact hr.lim b q n o hn e
  · rcases List.mem_cons.mp hb with q | q
    · rw [q]; exact Nat.le_refl _
    · exact hr.top b q
theorem OV.old {b : Nat} (hb : φ'.take b = φ.take b) {o : Ob} {a : Addr} (v : OV K mg φ χ H o a) (u : o.und b) : OV K mg φ' χ H o a := by
  cases v with
  | lst e r => exact .lst e (r.old hb u)
  | dk e1 e2 r => exact .dk e1 e2 (r.old hb (unds_all.mpr fun d hd => by
      obtain ⟨p, hp, rfl⟩ := List.mem_map.mp hd
      exact u p hp))
  | ins e1 e2 e3 r => exact .ins e1 e2 e3 (r.old hb (unds_all.mpr fun d hd => by
      obtain ⟨p, hp, rfl⟩ := List.mem_map.mp hd
      exact u p hp))
/-- behind it: what is its own is let go (a list that is told is kept from the rest) -/
theorem HR.leave {b : Nat} (hr : HR K mg φ' χ' H' (b :: l) h') (hp : φ' = φ ++ r) (hl : φ.length = b) (χ2 : Ads) (h2 : ∀ a, χ2 a → χ' a) (h3 : ∀ a ∈ φ, χ2 a) (htop : ∀ c ∈ l, c ≤ b) : HR K mg φ χ2 H' l (h'.take b) := by
  have hlen := hr.len
  have tk : φ'.take b = φ := by rw [hp, ← hl, List.take_left]
  have hb : b ≤ h'.length := hr.top b (by simp)
  have tk2 : φ.take b = φ'.take b := by rw [tk, ← hl, List.take_length]
  refine ⟨by rw [List.length_take, hl]; omega, by rw [← tk]; exact hr.nd.sublist (List.take_sublist _ _), h3, fun n a o e1 e2 => ?_, fun c hc n o hn e => ?_, fun c hc => ?_, fun a q => hr.ch a (h2 a q)⟩
  · have hn : n < b := by rw [← hl]; exact (List.getElem?_eq_some_iff.mp e1).1
    rw [List.getElem?_take_of_lt hn] at e2
    have e1' : φ'[n]? = some a := by rw [hp, List.getElem?_append_left (by omega)]; exact e1
    exact ((hr.ob n a o e1' e2).old tk2 (hr.lim b (by simp) n o hn e2)).less h2
  · have hnb : n < b := Nat.lt_of_lt_of_le hn (htop c hc)
    rw [List.getElem?_take_of_lt hnb] at e
    exact hr.lim c (by simp [hc]) n o hn e
  · rw [List.length_take]
    have := htop c hc
    omega
theorem Ext.leave {b : Nat} (x : Ext φ χ H φ' χ' H') (χ2 : Ads) (h1 : ∀ a, χ a → χ2 a) (h2 : ∀ a, χ2 a → χ' a) : Ext φ χ H φ χ2 H' :=
  ⟨⟨⟨[], by simp⟩, h1, fun a q n => x.new a (h2 a q) n, x.keep, x.tups, x.frl⟩, x.kp, fun a q n => absurd q n⟩
theorem start_rs {np ns : Nat} {N : List Str} {ds : List D} {vs : List V} (r : RVs K φ χ H ds vs) (hN : N.length = ns) (hl : ds.length = np) (hle : np ≤ ns) : RS K φ χ H (ds.map some ++ List.replicate (ns - np) none) (L2.start N vs) := by
  have hv := r.length
  refine ⟨by unfold L2.start; simp; omega, fun i d e => ?_⟩
  by_cases hi : i < ds.length
  · rw [List.getElem?_append_left (by simpa using hi), List.getElem?_map] at e
    cases ed : ds[i]? with
    | none => rw [ed] at e; cases e
    | some d' =>
      rw [ed] at e
      cases e
      obtain ⟨v, e1, rv⟩ := r.get ed
      exact ⟨v, by unfold L2.start; rw [List.getElem?_append_left (by simp; omega), List.getElem?_map, e1]; rfl, rv⟩
  · rw [List.getElem?_append_right (by simpa using hi)] at e
    rw [List.getElem?_replicate] at e
    split at e <;> cases e
/-- behind the body -/
theorem fin_out {keep : Bool} {E : XK} {Q : VK} {r : R Fl} {D : Ends} {W' : WX} (hr : HR X.K X.mg φ χ H l h) (eW : ∀ cls dd τ H, E cls dd H → W' cls dd τ H) (eD : D.nx = fun _ H' => Q .non H') (eR : D.rt = Q)
    (o : OutK X.K X.mg E l φ χ H (endF keep h.length r) Q) : OutS X W' (if keep = true then l else h.length :: l) φ χ H r D := by
  cases keep with
  | true =>
    cases r with
    | bad => exact o
    | ex c fs h' => exact o
    | ok fl h' =>
      intro φ' χ' H' x hr'
      cases fl with
      | nx σ => intro τ _; rw [eD]; exact o φ' χ' H' x hr' _ .non
      | rt d => intro v rv; rw [eR]; exact o φ' χ' H' x hr' v rv
      | xc c fs σ => intro τ cls dd _ xv; exact eW _ _ _ _ (o φ' χ' H' cls dd x hr' xv)
  | false =>
    cases r with
    | bad => exact o
    | ex c fs h' => exact o
    | ok fl h' =>
      intro φ' χ' H' x hr'
      obtain ⟨rest, hp⟩ := x.pre
      have tk : φ'.take h.length = φ := by rw [hp, ← hr.len, List.take_left]
      have back : φ.take h.length = φ'.take h.length := by rw [tk, ← hr.len, List.take_length]
      have sub' : ∀ a ∈ φ, χ' a := fun a ha => x.sub a (hr.sub a ha)
      have hrF : HR X.K X.mg φ χ' H' l (h'.take h.length) := HR.leave (φ := φ) hr' hp hr.len χ' (fun _ q => q) sub' hr.top
      have xF : Ext φ χ H φ χ' H' := x.leave (b := 0) χ' x.sub (fun _ q => q)
      have val : ∀ (d : Mp.D) (v : V), RV X.K φ' χ' H' d v → OutK X.K X.mg E l φ χ H (fin false h.length d h') Q → Q v H' := by
        intro d v rv o
        unfold fin at o
        simp only [Bool.false_eq_true, if_false] at o
        split at o
        · rename_i hu
          exact o φ χ' H' xF hrF v (rv.old back hu)
        · split at o
          · rename_i n hne
            split at o
            · rename_i ds e
              split at o
              · rename_i hu
                cases rv with
                | @ref _ a q =>
                  obtain ⟨ws, ha, s⟩ := hr'.getL q e
                  have hn : h.length ≤ n := by
                    by_cases hlt : n < h.length
                    · exact absurd (by simpa [Mp.D.und] using hlt) hne
                    · omega
                  have na : a ∉ φ := fun hm => by
                    obtain ⟨i, hi, ei⟩ := List.mem_iff_getElem.mp hm
                    have e1 : φ'[i]? = some a := by rw [hp, List.getElem?_append_left hi, List.getElem?_eq_getElem hi, ei]
                    obtain ⟨l1, q1⟩ := List.getElem?_eq_some_iff.mp q
                    obtain ⟨l2, q2⟩ := List.getElem?_eq_some_iff.mp e1
                    have := (List.getElem_inj hr'.nd).mp (q1.trans q2.symm)
                    have := hr.len
                    omega
                  have nc : ¬ χ a := fun hc => hr.ch a hc (x.fr a (List.mem_of_getElem? q) na)
                  have hr2 : HR X.K X.mg φ (fun b => χ' b ∧ b ≠ a) H' l (h'.take h.length) := HR.leave (φ := φ) hr' hp hr.len _ (fun _ q => q.1) (fun b hb => ⟨sub' b hb, fun e => na (e ▸ hb)⟩) hr.top
                  exact o φ _ H' (x.leave (b := 0) _ (fun b hb => ⟨x.sub b hb, fun e => nc (e ▸ hb)⟩) fun _ q => q.1) hr2 _ (.lst (fun q => q.2 rfl) ha ((s.old back hu).less fun _ q => q.1))
              · exact o.elim
            · exact o.elim
          · exact o.elim
      cases fl with
      | nx σ => intro τ _; rw [eD]; exact val .non .non .non o
      | rt d => intro v rv; rw [eR]; exact val d v rv o
      | xc c fs σ =>
        intro τ cls dd _ xv
        have o : OutK X.K X.mg E l φ χ H (if Mp.D.unds h.length fs = true then R.ex c fs (h'.take h.length) else .bad) Q := o
        split at o
        · rename_i hu
          refine eW _ _ _ _ (o φ χ' H' cls dd xF hrF ⟨xv.cl, ?_⟩)
          rcases xv.fl with q | ⟨a, vs, e1, e2, e3, e4, e5⟩
          · exact .inl q
          · exact .inr ⟨a, vs, e1, e2, e3, e4.old back hu, e5⟩
        · exact o.elim
end
section
variable {P : Program} {w : World} {K : PySem.W.Frag} {mg : Str → Option Value} {base : Heap} {t : Bool} {k : Nat} {f : Addr} {fd : FuncData} {x qual : Str} {st : Stmt} {N ps : List Str} {np ns : Nat} {keep : Bool} {sb : SL}
/-- a def's context, also within an except suite -/
abbrev cxG (t : Bool) (CX : CXT) (P : Program) (w : World) (K : PySem.W.Frag) (mg : Str → Option Value) (base : Heap) (N : List Str) (qual : Str) (scope : Scope) (f : Addr) (cd : Value) (A : Around) (outer : List Env) (s : Shared) (H : Hp) (E : XK) : Cx :=
  { cxOf CX P w K mg base N qual scope f cd A outer s H E with calm := !t }
theorem inv_startG {CX : CXT} {scope : Scope} {cd : Value} {A : Around} {outer : List Env} {s s1 : Shared} {H : Hp} {E : XK} {us : List Value} {vs : List V} (S : FnScope N ps scope) (hd : t = false → A.handled = none) (e0 : Env0 P w K mg base A outer s H) (hl : vs.length = ps.length) (r : Vals vs us)
    (x : InCallC s s.heap.objs.size (bindL (envOfC qual scope s.heap.objs.size f cd).kindOf (ps.zip us) fun _ => none) (cellsFrom (s.heap.objs.size + 1) scope.names []) (bindC (envOfC qual scope s.heap.objs.size f cd).kindOf (ps.zip us) fun _ => none) s1) :
    Inv (cxG t CX P w K mg base N qual scope f cd A outer s H E) [] (L2.start N vs) H s1 := by
  have e1 : Env0 P w K mg base { A with handled := Option.none } outer s H := ⟨e0.frames, e0.mod, e0.bs, e0.bsz, e0.funs, e0.frf, e0.hok, e0.bare⟩
  have I := inv_start (CX := CX) (E := E) (qual := qual) (f := f) (cd := cd) S (A := { A with handled := Option.none }) rfl e1 hl r x
  exact ⟨⟨I.ok.mod, I.ok.kind, I.ok.glob, I.ok.blt, I.ok.above, I.ok.inj, I.ok.has, I.ok.cab, (fun z => hd (by
    have z : (!t) = true := z
    cases t with
    | true => cases z
    | false => rfl)), Around.frames_deeper e0.frames, I.ok.stk, I.ok.exf, I.ok.bs, I.ok.bsz, I.ok.noex, I.ok.exfs, I.ok.funs, I.ok.frf⟩, I.os, I.bare, I.base, I.loc, I.cell, I.free, I.freeC, I.pin, I.hok, I.len⟩
theorem fnG_of (F : Fun K x qual st f fd) (S : FnScope N ps (defScope st)) (hN : N.length = ns) (hp : ps.length = np)
    (hbody : ∀ (l : List Nat) (cdv : Value) (A : Around) (outer : List Env) (s : Shared) (H : Hp) (E : XK), Rm t k (A.deeper (envOfC qual (defScope st) s.heap.objs.size f cdv)) → (A.deeper (envOfC qual (defScope st) s.heap.objs.size f cdv)).guards = some [] →
      PSs (cxG t (L2.CX P w) P w K mg base N qual (defScope st) f cdv A outer s H E) (defBody st) (tML (cxG t (L2.CX P w) P w K mg base N qual (defScope st) f cdv A outer s H E) (fun cls dd _ H => E cls dd H) l sb)) :
    FnG P w K mg base t (k + 1) f fd ps (.mk np ns keep sb) := by
  obtain ⟨oc, od, kV, doc, pm, an, cdv, ct, osl, rfl, lk, hcd⟩ := F.ex
  refine ⟨hp.symm, fun l A outer s H args us vs Q E room gu e0 bt rv sp => ?_⟩
  obtain ⟨φ, χ, h, ds, rvs, hr, o⟩ := sp
  have len : ds.length = np := callF_np (f := .mk np ns keep sb) (OutK.ok o)
  unfold callF at o
  have cond : ds.length = np ∧ np ≤ ns := by
    split at o
    · assumption
    · exact o.elim
  rw [if_pos cond] at o
  have hlv : vs.length = ps.length := by rw [← rvs.length, len, hp]
  have kin : K.In s.heap := e0.mod.kin.keeps fun b u q => (e0.bs b u q).1
  have nolim : s.heap.NoLimit := e0.mod.nolimit.keeps fun b u q => (e0.bs b u q).1
  have kinds : ∀ y ∈ ps.zip us, (defScope st).names.lookup y.1 = some .local ∨ ((defScope st).names.lookup y.1 = some .cell ∧ ((cellsFrom (s.heap.objs.size + 1) (defScope st).names []).lookup y.1).isSome = true) := by
    intro ⟨n, u⟩ hy
    exact (S.par n (List.of_mem_zip hy).1).imp id fun q => ⟨q, PySem.W.cellsFrom_some _ _ _ (.inl q)⟩
  refine codeAny_call_function room.depth (kin _ _ lk) rfl S.co S.gen rfl (PySem.W.codeRec_of kin hcd) (bt _ _ _ _ ?_)
  refine wpAny_newFunctionEnv_cells S.kind kinds fun env he s1 ic => ?_
  subst he
  refine ⟨nolim.keeps ic.toInCall.keep, codeAny_func ?_⟩
  have I : Inv (cxG t (L2.CX P w) P w K mg base N qual (defScope st) f cdv A outer s H E) [] (L2.start N vs) H s1 := inv_startG S room.hd e0 hlv rv ic
  have body := hbody (if keep = true then l else h.length :: l) cdv A outer s H E (room.deeper _) gu
  have rs0 := start_rs rvs hN len cond.2
  have hr0 : HR K mg φ χ H (if keep = true then l else h.length :: l) h := by
    cases keep with
    | true => exact hr
    | false => exact hr.enter
  have q0 := fin_out (X := cxG t (L2.CX P w) P w K mg base N qual (defScope st) f cdv A outer s H E) (W' := fun cls dd _ H => E cls dd H) (D := { nx := fun _ H' => Q .non H', rt := Q }) hr (fun _ _ _ _ q => q) rfl rfl o
  refine wpAny_mono (body.run [] s1 (L2.start N vs) H _ I ⟨φ, χ, _, h, rs0, hr0, q0⟩) (fun fl s' ends => ?_) fun _ _ q => q
  cases fl with
  | next =>
    obtain ⟨_, _, J, q⟩ := ends
    exact ⟨V.non, _, J.os, J.bare, J.base, J.hok, rfl, q⟩
  | brk => obtain ⟨_, _, _, q⟩ := ends; exact q.elim
  | cont => obtain ⟨_, _, _, q⟩ := ends; exact q.elim
  | ret u =>
    obtain ⟨_, _, _, J, r, q⟩ := ends
    exact ⟨_, _, J.os, J.bare, J.base, J.hok, r, q⟩
end
end Mp

set_option maxRecDepth 100000
/-! Mp4b: a def's text, held against its term, by a program: the checks. -/
namespace Mp
open PySem PySem.Spec PyProof.Rows L2

structure Ce where
  N : List Str
  sc : Scope
  fn : Str → Bool
  hot : Bool
  top : Bool        -- a def's own frame, not a comprehension's
def nst : Expr → Bool
  | .Starred _ _ => false
  | _ => true
def glC (sc : Scope) (x : Str) : Bool := match sc.names.lookup x with
  | some .globalImplicit => true
  | _ => false
def visC (sc : Scope) (x : Str) : Bool := match sc.names.lookup x with
  | some .local => true | some .cell => true | some .free => true
  | _ => false
def locC (sc : Scope) (x : Str) : Bool := match sc.names.lookup x with
  | some .local => true
  | _ => false
def celC (sc : Scope) (x : Str) : Bool := match sc.names.lookup x with
  | some .cell => true
  | _ => false
/-- a name that may be stored to, at its slot -/
def slotC (Γ : Ce) (x : Str) (i : Nat) : Bool := decide (Γ.N[i]? = some x) && (locC Γ.sc x || (celC Γ.sc x && Γ.fn x))
def bopOf : Operator → Option Bop
  | .Add => some .add | .Sub => some .sub | .Mult => some .mul | .Mod => some .mod | .FloorDiv => some .fdiv | .Pow => some .pow
  | _ => none
def copOf : CmpOp → Option Cop
  | .Eq => some .eq | .NotEq => some .ne | .Lt => some .lt | .LtE => some .le | .Gt => some .gt | .GtE => some .ge | .In => some .inn | .NotIn => some .nin
  | _ => none
def plainIx : Expr → Bool
  | .Slice _ _ _ _ => false
  | _ => true
/-- what isTrue asks by its value -/
def plainT : Expr → Bool
  | .UnaryOp .Not _ _ => false
  | .BoolOp _ _ _ => false
  | .IfExp _ _ _ _ => false
  | .Compare _ _ _ _ => false
  | _ => true
def noSet : Expr → Bool
  | .Set _ _ _ => false
  | _ => true
def noTup : Expr → Bool
  | .Tuple _ _ _ => false
  | _ => true
/-- no comprehension -/
def noLc : Expr → Bool
  | .ListComp _ _ _ _ => false
  | .SetComp _ _ _ _ => false
  | .DictComp _ _ _ _ _ => false
  | _ => true
def noCall : Expr → Bool
  | .Call _ _ _ _ => false
  | _ => true
def nameIs (sc : Scope) (x : String) : Expr → Bool
  | .Name y _ => decide (y = Str.ofString x) && glC sc y && !(y == ("__debug__" : Str))
  | _ => false
def Blt.name : Blt → String
  | .len => "len" | .abs => "abs" | .min2 => "min" | .max2 => "max" | .minL => "min" | .maxL => "max" | .sum => "sum" | .all => "all" | .any => "any"
  | .tuple => "tuple" | .list => "list" | .listR1 => "list" | .listR2 => "list" | .tupR1 => "tuple" | .tupR2 => "tuple"
  | .sorted => "sorted" | .sortedSet => "sorted" | .lenSet => "len" | .int => "int" | .str => "str" | .repr => "repr" | .listRev => "list" | .dnew => "" | .dget => "" | .sortedD => "sorted" | .inR _ _ => ""
/-- a name called upon these -/
def call1C (sc : Scope) (x : String) : Expr → Option (List Expr)
  | .Call f (a :: as) [] _ => if nameIs sc x f && nst a && as.all nst then some (a :: as) else none
  | _ => none
def call2C (sc : Scope) (x y : String) (v : Expr) : Option (List Expr) := match call1C sc x v with
  | some [w] => call1C sc y w
  | _ => none
def Blt.isInR : Blt → Bool
  | .inR _ _ => true
  | _ => false
/-- those that may stand in an except suite -/
def bltHot : Blt → Bool
  | .len => true | .abs => true | .tuple => true | .list => true | .sorted => true | .int => true | .str => true | .repr => true
  | .dnew => true | .dget => true
  | _ => false
def bltC (t : Bool) (sc : Scope) (b : Blt) (v : Expr) : Option (List Expr) := if (t && !(bltHot b)) = true then none else match b with
  | .listR1 => (call2C sc "list" "range" v).bind fun as => if as.length = 1 then some as else none
  | .listR2 => (call2C sc "list" "range" v).bind fun as => if as.length = 2 then some as else none
  | .tupR1 => (call2C sc "tuple" "range" v).bind fun as => if as.length = 1 then some as else none
  | .tupR2 => (call2C sc "tuple" "range" v).bind fun as => if as.length = 2 then some as else none
  | .sortedSet => (call2C sc "sorted" "set" v).bind fun as => if as.length = 1 then some as else none
  | .listRev => (call2C sc "list" "reversed" v).bind fun as => if as.length = 1 then some as else none
  | .lenSet => none
  | .dnew => match v with
    | .Dict [] [] _ => some []
    | _ => none
  | .inR neg two => match v with
    | .Compare x [op] [y] _ => match call1C sc "range" y with
      | some as => if decide (op = if neg then CmpOp.NotIn else CmpOp.In) && nst x && decide (as.length = if two then 2 else 1) then some (x :: as) else none
      | none => none
    | _ => none
  | .dget => match v with
    | .Subscript o i _ => if plainIx i && nst o && nst i then some [o, i] else none
    | _ => none
  | b => call1C sc b.name v
/-- classes: one, or a tuple of them; built-in ones alone, or own ones (and ValueError) alone -/
def tysL (sc : Scope) (p : Ty → Bool) : List Ty → List Expr → Bool
  | [], [] => true
  | t :: ts, e :: es => nameIs sc (tyName t) e && p t && tysL sc p ts es
  | _, _ => false
def tysP (sc : Scope) (p : Ty → Bool) (ts : List Ty) : Expr → Bool
  | .Tuple es _ _ => decide (ts ≠ []) && decide (ts.length ≤ 100) && tysL sc p ts es
  | e => match ts with
    | [t] => nameIs sc (tyName t) e && p t
    | _ => false
def tysC (sc : Scope) (ts : List Ty) (e : Expr) : Bool := tysP sc bTy ts e || tysP sc oTy ts e
def Bm.name : Bm → String
  | .append => "append" | .extend => "extend" | .insert => "insert" | .pop => "pop" | .popAt => "pop" | .remove => "remove" | .reverse => "reverse" | .index => "index" | .join => "join" | .count => "count" | .split => "split"
def Bm.ar : Bm → Nat
  | .append => 1 | .extend => 1 | .insert => 2 | .pop => 0 | .popAt => 1 | .remove => 1 | .reverse => 0 | .index => 1 | .join => 1 | .count => 1 | .split => 1
/-- those that have a rule here -/
def bmIn : Bm → Bool
  | _ => true
def bmC (m : Bm) : Expr → Option (Expr × List Expr)
  | .Call (.Attribute o x ap) as [] cp => if bmIn m && decide (x = Str.ofString m.name) && noCall o && (ap.endLine == cp.line) && as.all nst && decide (as.length = m.ar) then some (o, as) else none
  | _ => none
def nmOf : Expr → Option Str
  | .Name x _ => some x
  | _ => none
def slotsC (Γ : Ce) : List Expr → List Nat → Bool
  | [], [] => true
  | e :: es, i :: is => (match nmOf e with | some x => slotC Γ x i | none => false) && slotsC Γ es is
  | _, _ => false
def tgNames : Expr → List Str
  | .Name x _ => [x]
  | .Tuple es _ _ => es.filterMap nmOf
  | _ => []
def tgC (Γ : Ce) (v : Expr) (tg : List Nat) : Bool := match v with
  | .Name x _ => match tg with
    | [i] => slotC Γ x i
    | _ => false
  | .Tuple es _ _ => decide (2 ≤ tg.length) && slotsC Γ es tg
  | _ => false
def blkCe (Γ : Ce) (scope : Scope) : Ce := ⟨Γ.N, relS scope Γ.sc, fun x => scope.names.lookup x == some .cell, Γ.hot, false⟩
/-- the exchange of a comprehension's name and its value -/
def swapC (sc : Scope) (x : Str) (p : Pos) : Expr → Bool
  | .ListComp _ _ s q => (sc.names.lookup x == some .local) && (p.line == q.line) && !(s.names.any fun (n, k) => n == x && (k == .local || k == .cell))
  | _ => false
/-- a, b = x, y stored from the right -/
def parC (sc : Scope) (x y : Str) (px py : Pos) (a b : Expr) : Bool :=
  locC sc x && locC sc y && (px.line == py.line) && !(x == y) && !(foldedForSure 8 a && foldedForSure 8 b) && !(constantsAlone 8 a && constantsAlone 8 b) && nst a && nst b
/-- .. stored as any tuple is -/
def unpC (sc : Scope) (ts : List Expr) (v : Expr) : Bool := match v with
  | .Tuple vs _ _ => !(ts.length == 2 || ts.length == 3) || vs.all (foldedForSure 8) || ts.any fun t => (match nmOf t with | some x => !(locC sc x) | none => true)
  | .ListComp _ _ _ _ => true
  | v => noLc v

/-- pairs are taken by tuples of names -/
def tupT : It → Expr → Bool
  | .enum _, v => !(noTup v)
  | .zip _ _, v => !(noTup v)
  | _, _ => true
def isLc : E → Bool
  | .comp _ _ _ _ => true
  | .alloc (.comp _ _ _ _) => true
  | _ => false

/-- a refusal made with a text alone -/
def rz0 : EL → List Expr → Bool
  | .nil, [.Constant (.str _) _ _] => true
  | _, _ => false
mutual
def chkE (t : Bool) (Γ : Ce) : E → Expr → Bool
  | .no, _ => false
  | .var i, v => match v with
    | .Name x _ => decide (Γ.N[i]? = some x) && visC Γ.sc x && !(x == ("__debug__" : Str)) && !(x == ("__classdict__" : Str))
    | _ => false
  | .cst d, v => match v with
    | .Constant c _ _ => match d, c with
      | .non, .none => true
      | .bl a, .bool b => decide (a = b)
      | .int a, .int b => decide (a = b)
      | .str a, .str b => decide (a = b)
      | _, _ => false
    | _ => false
  | .glob x _, v => nameIs Γ.sc x v
  | .bop o a b, v => match v with
    | .BinOp x op y _ => decide (bopOf op = some o) && chkE false Γ a x && chkE false Γ b y
    | _ => false
  | .neg a, v => match v with
    | .UnaryOp .USub x _ => chkE false Γ a x
    | _ => false
  | .not a, v => match v with
    | .UnaryOp .Not x _ => chkE t Γ a x
    | _ => false
  | .and a b, v => match v with
    | .BoolOp .And (x :: y :: r) p => chkE t Γ a x && chkE t Γ b (match r with | [] => y | z :: r => .BoolOp .And (y :: z :: r) p)
    | _ => false
  | .or a b, v => match v with
    | .BoolOp .Or (x :: y :: r) p => chkE t Γ a x && chkE t Γ b (match r with | [] => y | z :: r => .BoolOp .Or (y :: z :: r) p)
    | _ => false
  | .cmp o a b, v => match v with
    | .Compare x [op] [y] _ => decide (copOf op = some o) && !(behindInMarks op y) && chkE false Γ a x && chkE false Γ b y
    | _ => false
  | .chain o p a b c, v => match v with
    | .Compare x [op, oq] [y, z] _ => decide (copOf op = some o) && decide (copOf oq = some p) && !(behindInMarks oq z) && chkE false Γ a x && chkE false Γ b y && chkE false Γ c z
    | _ => false
  | .chain3 o p q a b c d, v => match v with
    | .Compare x [op, oq, oz] [y, z, w] _ => !t && (decide (copOf op = some o) && decide (copOf oq = some p) && decide (copOf oz = some q) && !(behindInMarks oz w) && chkE false Γ a x && chkE false Γ b y && chkE false Γ c z && chkE false Γ d w)
    | _ => false
  | .isN a, v => match v with
    | .Compare x [.Is] [.Constant .none _ _] _ => chkE false Γ a x
    | _ => false
  | .notN a, v => match v with
    | .Compare x [.IsNot] [.Constant .none _ _] _ => chkE false Γ a x
    | _ => false
  | .isB a b, v => match v with
    | .Compare x [.Is] [.Constant (.bool c) _ _] _ => decide (b = c) && chkE false Γ a x
    | _ => false
  | .notB a b, v => match v with
    | .Compare x [.IsNot] [.Constant (.bool c) _ _] _ => decide (b = c) && chkE false Γ a x
    | _ => false
  | .ite c a b, v => match v with
    | .IfExp z x y _ => !t && chkE true Γ c z && chkE false Γ a x && chkE false Γ b y
    | _ => false
  | .tup es, v => match v with
    | .Tuple as _ _ => chkL Γ es as
    | _ => false
  | .lst es, v => match v with
    | .List as _ => chkL Γ es as
    | _ => false
  | .ix a b, v => match v with
    | .Subscript x y _ => plainIx y && chkE false Γ a x && chkE false Γ b y
    | _ => false
  | .sl a lo hi, v => match v with
    | .Subscript x (.Slice l h none _) _ => chkE false Γ a x && (match l with | none => isNo lo | some y => !(isNo lo) && chkE false Γ lo y) && (match h with | none => isNo hi | some y => !(isNo hi) && chkE false Γ hi y)
    | _ => false
  | .rev a, v => match v with
    | .Subscript x (.Slice none none (some (.UnaryOp .USub (.Constant (.int 1) _ _) _)) _) _ => chkE false Γ a x
    | _ => false
  | .call x _ es, v => match v with
    | .Call f as [] _ => nameIs Γ.sc x f && as.all nst && chkL Γ es as
    | _ => false
  | .blt b es, v => match bltC Γ.hot Γ.sc b v with
    | some as => chkL Γ es as
    | none => false
  | .isin a ts, v => match v with
    | .Call f [x, y] [] _ => nameIs Γ.sc "isinstance" f && nst x && nst y && tysC Γ.sc ts y && chkE false Γ a x
    | _ => false
  | .comp e tg src c, v => match v with
    | .ListComp elt [⟨tgx, iter, ifs, 0⟩] scope _ => !Γ.hot && blkC Γ.N Γ.sc scope ((tgNames tgx).zip tg) && decide ((tgNames tgx).length = tg.length) && tgC (blkCe Γ scope) tgx tg && noSet iter && tupT src tgx && chkI Γ src iter &&
      (match ifs with | [] => isNo c | [y] => !(isNo c) && chkE true (blkCe Γ scope) c y | _ => false) && chkE false (blkCe Γ scope) e elt
    | _ => false
  | .compX e tg src, v => match v with
    | .ListComp elt [⟨tgx, iter, [], 0⟩] scope _ => Γ.top && !Γ.hot && blkC Γ.N Γ.sc scope ((tgNames tgx).zip tg) && decide ((tgNames tgx).length = tg.length) && tgC (blkCe Γ scope) tgx tg && noSet iter && tupT src tgx && chkI Γ src iter && chkE false (blkCe Γ scope) e elt
    | _ => false
  | .alloc e, v => !t && e.fresh && chkE false Γ e v
  | .vals i k j, v => match v with
    | .ListComp (.Subscript (.Name y _) (.Constant (.int k') _ _) _) [⟨.Name x _, .Call (.Attribute (.Name o _) at_ ap) [] [] cp, [], 0⟩] scope _ => !t && !Γ.hot && blkC Γ.N Γ.sc scope [(x, i)] && slotC (blkCe Γ scope) x i &&
      (decide (k' = (k : Int)) && decide (at_ = Str.ofString "values") && (ap.endLine == cp.line)) && (decide (Γ.N[j]? = some o) && visC Γ.sc o && !(o == ("__debug__" : Str)) && !(o == ("__classdict__" : Str))) &&
      (decide (Γ.N[i]? = some y) && visC (blkCe Γ scope).sc y && !(y == ("__debug__" : Str)) && !(y == ("__classdict__" : Str)))
    | _ => false
  | .pick ps a, v => match v with
    | .Subscript (.Dict ks vs _) x _ => plainIx x && dispC ps ks vs && !ps.isEmpty && Nat.ble ps.length 15 && chkE false Γ a x
    | _ => false
  | .fld _ _, _ => false
  | .xfld a f, v => match v with
    | .Attribute x n _ => noCall x && decide (n = Str.ofString f) && chkE false Γ a x
    | _ => false
  | .meth _ _ _ _ _, _ => false
  | .make _ _ _, _ => false
  | .mkx c es, v => match v with
    | .Call f as [] _ => nameIs Γ.sc c f && !Γ.hot && (if excF c = [] then rz0 es as else (as.all nst && !(as.isEmpty) && chkL Γ es as))
    | _ => false
  | .bm m a es, v => match bmC m v with
    | some (o, as) => chkE false Γ a o && chkL Γ es as
    | none => false
def chkL (Γ : Ce) : EL → List Expr → Bool
  | .nil, as => as.isEmpty
  | .cons e es, as => match as with
    | x :: xs => nst x && chkE false Γ e x && chkL Γ es xs
    | [] => false
def chkI (Γ : Ce) : It → Expr → Bool
  | .seq a, v => chkE false Γ a v
  | .rg1 a, v => match call1C Γ.sc "range" v with
    | some [x] => chkE false Γ a x
    | _ => false
  | .rg2 a b, v => match call1C Γ.sc "range" v with
    | some [x, y] => chkE false Γ a x && chkE false Γ b y
    | _ => false
  | .enum a, v => match call1C Γ.sc "enumerate" v with
    | some [x] => chkE false Γ a x
    | _ => false
  | .zip a b, v => match call1C Γ.sc "zip" v with
    | some [x, y] => chkE false Γ a x && chkE false Γ b y
    | _ => false
def chkS (Γ : Ce) : S → Stmt → Bool
  | .ex e, st => match st with
    | .Expr v _ => noLc v && chkE false Γ e v
    | _ => false
  | .set i e, st => match st with
    | .Assign [.Name x p] v _ => slotC Γ x i && chkE false Γ e v && (noLc v || isLc e)
    | _ => false
  | .unp is e, st => match st with
    | .Assign [.Tuple ts _ _] v _ => !Γ.hot && slotsC Γ ts is && unpC Γ.sc ts v && chkE false Γ e v
    | _ => false
  | .par i j es, st => match st with
    | .Assign [.Tuple [.Name x px, .Name y py] _ _] (.Tuple [a, b] _ _) _ => !Γ.hot && slotC Γ x i && slotC Γ y j && !(decide (i = j)) && parC Γ.sc x y px py a b && chkL Γ es [a, b]
    | _ => false
  | .ixSet o i e, st => match st with
    | .Assign [.Subscript x y _] v _ => plainIx y && noLc v && chkE false Γ o x && chkE false Γ i y && chkE false Γ e v
    | _ => false
  | .fldSet _ _ _, _ => false
  | .ret e, st => match st with
    | .Return (some v) _ => chkE false Γ e v
    | .Return none _ => match e with
      | .cst .non => true
      | _ => false
    | _ => false
  | .ite c a b, st => match st with
    | .If z x y _ => chkE true Γ c z && chkSL Γ a x && chkSL Γ b y
    | _ => false
  | .for_ tg src body _, st => match st with
    | .For tgx iter bd [] _ => !Γ.hot && tgC Γ tgx tg && noSet iter && tupT src tgx && chkI Γ src iter && chkSL Γ body bd
    | _ => false
  | .while_ c body _, st => match st with
    | .While z bd [] _ => chkE true Γ c z && chkSL Γ body bd
    | _ => false
  | .raise c es, st => match st with
    | .Raise (some (.Call f as [] _)) none _ => !Γ.hot && nameIs Γ.sc c f && (if excF c = [] then rz0 es as else (as.all nst && !(as.isEmpty) && chkL Γ es as))
    | _ => false
  | .try_ body hs, st => match st with
    | .Try bd (h :: hds) [] [] _ => !Γ.hot && chkSL Γ body bd && chkH Γ hs (h :: hds)
    | _ => false
  | .pass, st => match st with
    | .Pass _ => true
    | .Expr (.Constant (.str _) _ _) _ => true
    | _ => false
  | .kill _, _ => false
  | .never, _ => true
def chkSL (Γ : Ce) : SL → List Stmt → Bool
  | .nil, sts => sts.isEmpty
  | .cons s ss, sts => match s with
    | .kill _ => chkSL Γ ss sts
    | s => match sts with
      | st :: rest => chkS Γ s st && chkSL Γ ss rest
      | [] => false
def chkH (Γ : Ce) : HL → List ExceptHandler → Bool
  | .nil, hds => hds.isEmpty
  | .cons c i ss hs, hds => match hds with
    | .ExceptHandler (some e) n (b :: bs) _ :: r => nameIs Γ.sc c e && (match i, n with
      | none, none => true
      | some j, some y => decide (Γ.N[j]? = some y) && locC Γ.sc y
      | _, _ => false) && chkSL { Γ with hot := true } ss (b :: bs) && chkH Γ hs r
    | _ => false
end
inductive Use where
  | fn (t : Bool) (x : String) (f : Fn)
  | cls (c : String)
  | rz (c : String)
  | glob (x : String) (d : D)
def clsUses : List Ty → List Use
  | [] => []
  | .own c :: ts => (if c = "ValueError" then [] else [.cls c]) ++ clsUses ts
  | _ :: ts => clsUses ts
mutual
def usesE (t : Bool) : E → List Use
  | .glob x d => [.glob x d]
  | .bop _ a b => usesE t a ++ usesE t b
  | .neg a => usesE t a
  | .not a => usesE t a
  | .and a b => usesE t a ++ usesE t b
  | .or a b => usesE t a ++ usesE t b
  | .cmp _ a b => usesE t a ++ usesE t b
  | .chain _ _ a b c => usesE t a ++ (usesE t b ++ usesE t c)
  | .chain3 _ _ _ a b c d => usesE t a ++ (usesE t b ++ (usesE t c ++ usesE t d))
  | .isN a => usesE t a
  | .notN a => usesE t a
  | .isB a _ => usesE t a
  | .notB a _ => usesE t a
  | .ite c a b => usesE t c ++ (usesE t a ++ usesE t b)
  | .tup es => usesL t es
  | .lst es => usesL t es
  | .ix a b => usesE t a ++ usesE t b
  | .sl a lo hi => usesE t a ++ (usesE t lo ++ usesE t hi)
  | .rev a => usesE t a
  | .call x f es => .fn t x f :: usesL t es
  | .blt _ es => usesL t es
  | .isin a ts => clsUses ts ++ usesE t a
  | .xfld a _ => usesE t a
  | .comp e _ src c => usesE t e ++ (usesI t src ++ usesE t c)
  | .compX e _ src => usesE t e ++ usesI t src
  | .alloc e => usesE t e
  | .pick _ a => usesE t a
  | .bm _ a es => usesE t a ++ usesL t es
  | .mkx c es => .rz c :: usesL t es
  | _ => []
def usesL (t : Bool) : EL → List Use
  | .nil => []
  | .cons e es => usesE t e ++ usesL t es
def usesI (t : Bool) : It → List Use
  | .seq a => usesE t a
  | .rg1 a => usesE t a
  | .rg2 a b => usesE t a ++ usesE t b
  | .enum a => usesE t a
  | .zip a b => usesE t a ++ usesE t b
def usesS (t : Bool) : S → List Use
  | .ex e => usesE t e
  | .set _ e => usesE t e
  | .unp _ e => usesE t e
  | .par _ _ es => usesL t es
  | .ixSet o i e => usesE t o ++ (usesE t i ++ usesE t e)
  | .ret e => usesE t e
  | .ite c a b => usesE t c ++ (usesSL t a ++ usesSL t b)
  | .for_ _ src body _ => usesI t src ++ usesSL t body
  | .while_ c body _ => usesE t c ++ usesSL t body
  | .raise c es => .rz c :: usesL t es
  | .try_ body hs => usesSL t body ++ usesH hs
  | _ => []
def usesSL (t : Bool) : SL → List Use
  | .nil => []
  | .cons s ss => usesS t s ++ usesSL t ss
def usesH : HL → List Use
  | .nil => []
  | .cons c _ ss hs => .cls c :: (usesSL true ss ++ usesH hs)
end
end Mp

set_option maxRecDepth 100000
/-! Mp4c: the checks are right. -/
namespace Mp
open PySem PySem.Spec PyProof.Rows L2

def bltNames : List String := ["len", "abs", "min", "max", "sum", "all", "any", "tuple", "list", "sorted", "set", "int", "str", "bool", "repr", "isinstance", "range", "enumerate", "zip", "reversed", "ValueError"]
structure Fit (X : Cx) (Γ : Ce) : Prop where
  N : X.N = Γ.N
  sc : X.env.scope = Γ.sc
  fn : X.fn = Γ.fn
  nd : Γ.N.Nodup
  calm : Γ.hot = false → X.calm = true
  kind : X.env.scope.kind = .function
  top : Γ.top = true → X.stack = X.env :: X.outer ∧ X.env.frame = some X.env.locals
structure Cxt (X : Cx) (t : Bool) (k : Nat) : Prop where
  room : Rm t k X.A
  gu : X.A.guards = some []
  free : ∀ x ∈ bltNames, X.mg (Str.ofString x) = none
def UseOk (P : Program) (w : World) (K : PySem.W.Frag) (mg : Str → Option Value) (base : Heap) (k : Nat) : Use → Prop
  | .fn t x f => CallOk P w K mg base t k x f
  | .cls c => ∃ C, ExAt K c C ∧ mg (Str.ofString c) = some (.ref C)
  | .rz c => ∃ j, j + 1 ≤ k ∧ RzOk P w K mg base j c
  | .glob x d => GlobOk K mg x d
abbrev Uses (X : Cx) (k : Nat) (us : List Use) : Prop := ∀ u ∈ us, UseOk X.prog X.w X.K X.mg X.base k u

section
variable {X : Cx} {Γ : Ce} {W : WX} {l : List Nat} {t : Bool} {k : Nat}
theorem Uses.left {us vs : List Use} (h : Uses X k (us ++ vs)) : Uses X k us := fun u hu => h u (List.mem_append_left _ hu)
theorem Uses.right {us vs : List Use} (h : Uses X k (us ++ vs)) : Uses X k vs := fun u hu => h u (List.mem_append_right _ hu)
theorem star1 {a : Expr} {as : List Expr} {env : Env} (h : nst a = true) : starEach (a :: as) env = (false, eval a env) :: starEach as env := by
  cases a <;> first | rfl | cases h
theorem stars {pos : Pos} {env : Env} : ∀ {as : List Expr}, as.all nst = true → (backTo pos (starEach as env)).any (·.1) = false
  | [], _ => rfl
  | a :: as, h => by
    have h' : nst a = true ∧ as.all nst = true := by simpa using h
    rw [star1 h'.1]
    show (false || (backTo pos (starEach as env)).any (·.1)) = false
    rw [stars h'.2]; rfl
theorem glC_ok (F : Fit X Γ) {x : Str} (h : glC Γ.sc x = true) : Gl X x := by
  unfold glC at h
  split at h
  · rename_i e; show X.env.scope.names.lookup x = _; rw [F.sc]; exact e
  · cases h
theorem visC_ok (F : Fit X Γ) {x : Str} (h : visC Γ.sc x = true) : Vis X.env.scope x := by
  unfold visC at h
  rw [F.sc]
  split at h
  · exact .inl (by assumption)
  · exact .inr (.inl (by assumption))
  · exact .inr (.inr (by assumption))
  · cases h
theorem locC_ok {sc : Scope} {x : Str} (h : locC sc x = true) : sc.names.lookup x = some .local := by
  unfold locC at h
  split at h
  · assumption
  · cases h
theorem celC_ok {sc : Scope} {x : Str} (h : celC sc x = true) : sc.names.lookup x = some .cell := by
  unfold celC at h
  split at h
  · assumption
  · cases h
theorem slotC_ok (F : Fit X Γ) {x : Str} {i : Nat} (h : slotC Γ x i = true) : X.N[i]? = some x ∧ Loc X.env.scope x ∧ (X.fn x = true ∨ X.env.scope.names.lookup x = some .local) := by
  unfold slotC at h
  simp only [Bool.and_eq_true, Bool.or_eq_true, decide_eq_true_eq] at h
  refine ⟨by rw [F.N]; exact h.1, ?_, ?_⟩
  · rw [F.sc]
    rcases h.2 with q | q
    · exact .inl (locC_ok q)
    · exact .inr (celC_ok q.1)
  · rw [F.sc, F.fn]
    rcases h.2 with q | q
    · exact .inr (locC_ok q)
    · exact .inl q.2
theorem nameIs_ok (F : Fit X Γ) {x : String} {f : Expr} (h : nameIs Γ.sc x f = true) : ∃ p, f = .Name (Str.ofString x) p ∧ Gl X (Str.ofString x) ∧ (Str.ofString x == ("__debug__" : Str)) = false := by
  unfold nameIs at h
  split at h
  · rename_i y p
    simp only [Bool.and_eq_true, decide_eq_true_eq] at h
    obtain ⟨⟨h1, h2⟩, h3⟩ := h
    subst h1
    exact ⟨p, rfl, glC_ok F h2, by simpa using h3⟩
  · cases h
theorem call1C_ok (F : Fit X Γ) {x : String} {v : Expr} {as : List Expr} (h : call1C Γ.sc x v = some as) : ∃ p pos a as', v = .Call (.Name (Str.ofString x) p) (a :: as') [] pos ∧ as = a :: as' ∧ Gl X (Str.ofString x) ∧ (Str.ofString x == ("__debug__" : Str)) = false ∧ nst a = true ∧ as'.all nst = true := by
  unfold call1C at h
  split at h
  · rename_i f a as' pos
    split at h
    · rename_i hc
      simp only [Bool.and_eq_true] at hc
      obtain ⟨⟨h1, h2⟩, h3⟩ := hc
      cases h
      obtain ⟨p, rfl, g, d⟩ := nameIs_ok F h1
      exact ⟨p, pos, a, as', rfl, rfl, g, d, h2, h3⟩
    · cases h
  · cases h
theorem bopOf_ok {op : Operator} {o : Bop} (h : bopOf op = some o) {a b : Expr} {ea eb : E} {pos : Pos} (ha : PE X a (tM X W l ea)) (hb : PE X b (tM X W l eb)) : PE X (.BinOp a op b pos) (tM X W l (.bop o ea eb)) := by
  cases op <;> first
    | (cases h; done)
    | (cases h; first | exact m_add ha hb | exact m_sub ha hb | exact m_mul ha hb | exact m_mod ha hb | exact m_fdiv ha hb | exact m_pow ha hb)
theorem copOf_ok {op : CmpOp} {o : Cop} (h : copOf op = some o) : op = opC o := by
  cases op <;> first | (cases h; done) | (cases h; rfl)
theorem plainIx_ok {b : Expr} (h : plainIx b = true) : PlainIx b := by
  intro o i
  cases b <;> first | rfl | cases h
theorem plainSl_ok {b : Expr} (h : plainIx b = true) : NoSl b := by
  intro o i
  cases b <;> first | rfl | cases h
theorem plainT_ok {v : Expr} {env : Env} (h : plainT v = true) : ∀ whole, isTrue v env whole = (do let u ← whole; standAt v.pos; holding [u] (truthy u)) := by
  intro whole
  cases v <;> first
    | rfl
    | (cases h; done)
    | (rename_i op a p; cases op <;> first | rfl | (cases h; done))
theorem noSet_ok {v : Expr} {env : Env} (h : noSet v = true) : ∀ x, foldedSetIterable v env x = pure x := by
  intro x
  cases v <;> first | rfl | cases h
theorem noLc_ok {v : Expr} {env : Env} (h : noLc v = true) (t : Option Expr) (n : Nat) : swapsWith v t n env = pure false := by
  cases v <;> first | rfl | cases h
theorem base_ok {v : Expr} {env : Env} {x : Str} (h : noCall v = true) : attributeBase v x env (eval v env) = eval v env := by
  cases v <;> first | rfl | cases h
theorem free_of (C : Cxt X t k) {x : String} (h : x ∈ bltNames) : X.mg (Str.ofString x) = none := C.free x h
theorem hu_of' (C : Cxt X t k) : X.A.units + 65 < cLine := by have := C.room.un; omega
/-! ### built-in functions -/
theorem blt_call {x : String} {v : Expr} {as : List Expr} {id : String} {b : Blt} {es : EL} {r : List V → Hp → VK → Prop} (F : Fit X Γ) (C : Cxt X t k) (h : call1C Γ.sc x v = some as) (ha : PA X as (tMs X W l es)) (hc : CallR X (.builtin id) r) (hx : x ∈ bltNames)
    (hv : bootBuiltins (Str.ofString x) = some (.builtin id)) (hn : Str.ofString x ≠ "__name__") (hk : BltOk X W l b r) : PE X v (tM X W l (.blt b es)) := by
  obtain ⟨p, pos, a, as', rfl, rfl, g, d, n1, n2⟩ := call1C_ok F h
  exact m_blt (pe_callB hc g (free_of C hx) hv ha hn d (star1 n1) (stars n2)) hk
theorem blt_callT {x : String} {v : Expr} {as : List Expr} {id : String} {b : Blt} {es : EL} {r : List V → Hp → VK → Prop} (F : Fit X Γ) (C : Cxt X t k) (h : call1C Γ.sc x v = some as) (ha : PA X as (tMs X W l es)) (hc : CallR X (.type id) r) (hx : x ∈ bltNames)
    (hv : bootBuiltins (Str.ofString x) = some (.type id)) (hn : Str.ofString x ≠ "__name__") (hk : BltOk X W l b r) : PE X v (tM X W l (.blt b es)) := by
  obtain ⟨p, pos, a, as', rfl, rfl, g, d, n1, n2⟩ := call1C_ok F h
  exact m_blt (pe_callTy hc g (free_of C hx) hv ha hn d (star1 n1) (stars n2)) hk
theorem call2C_ok (F : Fit X Γ) {x y : String} {v : Expr} {as : List Expr} (h : call2C Γ.sc x y v = some as) :
    ∃ p pos q p2 a as', v = .Call (.Name (Str.ofString x) p) [.Call (.Name (Str.ofString y) p2) (a :: as') [] q] [] pos ∧ as = a :: as' ∧ Gl X (Str.ofString x) ∧ Gl X (Str.ofString y) ∧ nst a = true ∧ as'.all nst = true := by
  unfold call2C at h
  split at h
  · rename_i w e
    obtain ⟨p, pos, a, as', rfl, e2, g, d, n1, n2⟩ := call1C_ok F e
    obtain ⟨p2, q, a2, as2, rfl, rfl, g2, d2, n3, n4⟩ := call1C_ok F h
    cases e2
    exact ⟨p, pos, q, p2, a2, as2, rfl, rfl, g, g2, n3, n4⟩
  · cases h
theorem pa1 {a : Expr} {es : EL} {ea : E} (e : es = .cons ea .nil) (h : PE X a (tM X W l ea)) : True := trivial
/-- the parts of an argument list -/
inductive PAs (X : Cx) (W : WX) (l : List Nat) : List Expr → EL → Prop
  | nil : PAs X W l [] .nil
  | cons {a : Expr} {as : List Expr} {e : E} {es : EL} : nst a = true → PE X a (tM X W l e) → PAs X W l as es → PAs X W l (a :: as) (.cons e es)
theorem PAs.pa {as : List Expr} {es : EL} (h : PAs X W l as es) : PA X as (tMs X W l es) := by
  induction h with
  | nil => exact m_nil
  | cons n h _ ih => exact m_cons h ih (star1 n)
theorem opt_some {α : Type} {c : Prop} [Decidable c] {x y : α} (h : (if c then some x else none) = some y) : c ∧ x = y := by
  split at h
  · cases h; exact ⟨by assumption, rfl⟩
  · cases h
theorem inR_ok {neg two : Bool} {v : Expr} {as : List Expr} {es : EL} (F : Fit X Γ) (C : Cxt X t k) (h : (match v with
    | .Compare x [op] [y] _ => match call1C Γ.sc "range" y with
      | some as => if (decide (op = if neg then CmpOp.NotIn else CmpOp.In) && nst x && decide (as.length = if two then 2 else 1)) = true then some (x :: as) else none
      | none => none
    | _ => none) = some as) (ha : PAs X W l as es) : PE X v (tM X W l (.blt (.inR neg two) es)) ∧ PT X v (tMt X W l (.blt (.inR neg two) es)) ∧ ∀ o es p, v ≠ .BoolOp o es p := by
  have hr := fun (x : String) (hx : x ∈ bltNames) => free_of C hx
  split at h
  · split at h
    · rename_i as0 e0
      obtain ⟨hc, rfl⟩ := opt_some h
      have h1 := and_true (and_true hc).1
      obtain ⟨p, pos, a, as', rfl, rfl, g, d, n1, n2⟩ := call1C_ok F e0
      obtain rfl := of_decide_eq_true h1.1
      cases ha with
      | cons n pe t => exact ⟨m_inR g (hr "range" (by decide)) pe t.pa (star1 n1) (stars n2), m_inRT g (hr "range" (by decide)) pe t.pa (star1 n1) (stars n2), fun _ _ _ e => nomatch e⟩
    · cases h
  · cases h
theorem blt_ok {b : Blt} {v : Expr} {as : List Expr} {es : EL} (F : Fit X Γ) (C : Cxt X t k) (h : bltC Γ.hot Γ.sc b v = some as) (ha : PAs X W l as es) : PE X v (tM X W l (.blt b es)) := by
  unfold bltC at h
  split at h
  · cases h
  rename_i hn
  have calm : bltHot b = false → X.calm = true := fun e => F.calm (by
    cases q : Γ.hot with
    | false => rfl
    | true => rw [q, e] at hn; exact absurd rfl hn)
  clear hn
  have hr := fun (x : String) (hx : x ∈ bltNames) => free_of C hx
  cases b with
  | len => exact blt_call F C h ha.pa (CallR.or call_len_seq call_len_str) (by decide) (by decide +kernel) (by decide +kernel) ok_len
  | abs => exact blt_call F C h ha.pa call_abs (by decide) (by decide +kernel) (by decide +kernel) ok_abs
  | min2 => exact blt_call F C h ha.pa (call_min2 (calm rfl)) (by decide) (by decide +kernel) (by decide +kernel) ok_min2
  | max2 => exact blt_call F C h ha.pa (call_max2 (calm rfl)) (by decide) (by decide +kernel) (by decide +kernel) ok_max2
  | minL => exact blt_call F C h ha.pa (cr_min (calm rfl)) (by decide) (by decide +kernel) (by decide +kernel) ok_minL
  | maxL => exact blt_call F C h ha.pa (cr_max (calm rfl)) (by decide) (by decide +kernel) (by decide +kernel) ok_maxL
  | sum => exact blt_call F C h ha.pa (cr_sum (calm rfl)) (by decide) (by decide +kernel) (by decide +kernel) ok_sum
  | all => exact blt_call F C h ha.pa (cr_all (calm rfl)) (by decide) (by decide +kernel) (by decide +kernel) ok_all
  | any => exact blt_call F C h ha.pa (cr_any (calm rfl)) (by decide) (by decide +kernel) (by decide +kernel) ok_any
  | tuple => exact blt_callT F C h ha.pa call_tuple_of (by decide) (by decide +kernel) (by decide +kernel) ok_tuple
  | list => exact blt_callT F C h ha.pa call_list_of (by decide) (by decide +kernel) (by decide +kernel) ok_list
  | listR1 =>
    obtain ⟨as0, h0, h1⟩ := Option.bind_eq_some_iff.mp h
    obtain ⟨hl, rfl⟩ := opt_some h1
    obtain ⟨p, pos, q, p2, a, as', rfl, rfl, g, g2, n1, n2⟩ := call2C_ok F h0
    obtain rfl : as' = [] := by simpa using hl
    cases ha with
    | cons n pe t => cases t; exact m_listR1 (calm rfl) g2 (hr "range" (by decide)) g (hr "list" (by decide)) pe (star1 n)
  | listR2 =>
    obtain ⟨as0, h0, h1⟩ := Option.bind_eq_some_iff.mp h
    obtain ⟨hl, rfl⟩ := opt_some h1
    obtain ⟨p, pos, q, p2, a, as', rfl, rfl, g, g2, n1, n2⟩ := call2C_ok F h0
    cases ha with
    | cons n pe t =>
      cases t with
      | nil => simp at hl
      | cons n' pe' t' =>
        cases t' with
        | nil => exact m_listR2 (calm rfl) g2 (hr "range" (by decide)) g (hr "list" (by decide)) pe pe' (star1 n) (star1 n') (stars n2)
        | cons _ _ _ => simp at hl
  | tupR1 =>
    obtain ⟨as0, h0, h1⟩ := Option.bind_eq_some_iff.mp h
    obtain ⟨hl, rfl⟩ := opt_some h1
    obtain ⟨p, pos, q, p2, a, as', rfl, rfl, g, g2, n1, n2⟩ := call2C_ok F h0
    obtain rfl : as' = [] := by simpa using hl
    cases ha with
    | cons n pe t => cases t; exact m_tupR1 (calm rfl) g2 (hr "range" (by decide)) g (hr "tuple" (by decide)) pe (star1 n)
  | tupR2 =>
    obtain ⟨as0, h0, h1⟩ := Option.bind_eq_some_iff.mp h
    obtain ⟨hl, rfl⟩ := opt_some h1
    obtain ⟨p, pos, q, p2, a, as', rfl, rfl, g, g2, n1, n2⟩ := call2C_ok F h0
    cases ha with
    | cons n pe t =>
      cases t with
      | nil => simp at hl
      | cons n' pe' t' =>
        cases t' with
        | nil => exact m_tupR2 (calm rfl) g2 (hr "range" (by decide)) g (hr "tuple" (by decide)) pe pe' (star1 n) (star1 n') (stars n2)
        | cons _ _ _ => simp at hl
  | sorted => exact blt_call F C h ha.pa cr_sortU2 (by decide) (by decide +kernel) (by decide +kernel) ok_sorted
  | sortedSet =>
    obtain ⟨as0, h0, h1⟩ := Option.bind_eq_some_iff.mp h
    obtain ⟨hl, rfl⟩ := opt_some h1
    obtain ⟨p, pos, q, p2, a, as', rfl, rfl, g, g2, n1, n2⟩ := call2C_ok F h0
    obtain rfl : as' = [] := by simpa using hl
    cases ha with
    | cons n pe t => cases t; exact m_sortedSet (calm rfl) g2 (hr "set" (by decide)) g (hr "sorted" (by decide)) pe (star1 n)
  | listRev =>
    obtain ⟨as0, h0, h1⟩ := Option.bind_eq_some_iff.mp h
    obtain ⟨hl, rfl⟩ := opt_some h1
    obtain ⟨p, pos, q, p2, a, as', rfl, rfl, g, g2, n1, n2⟩ := call2C_ok F h0
    obtain rfl : as' = [] := by simpa using hl
    cases ha with
    | cons n pe t => cases t; exact m_listRev (calm rfl) g2 (hr "reversed" (by decide)) g (hr "list" (by decide)) pe (star1 n)
  | lenSet => cases h
  | dnew =>
    simp only at h
    split at h
    · cases h; cases ha; exact m_dnew
    · cases h
  | dget =>
    simp only at h
    split at h
    · obtain ⟨hc, rfl⟩ := opt_some h
      have h1 := (and_true (and_true hc).1).1
      cases ha with
      | cons n pe t =>
        cases t with
        | cons n' pe' t' =>
          cases t' with
          | nil => exact m_dget (by have := hu_of' C; omega) (plainSl_ok h1) pe pe'
    · cases h
  | inR neg two => exact (inR_ok F C h ha).1
  | sortedD => exact blt_call F C h ha.pa (call_sortedDI (calm rfl)) (by decide) (by decide +kernel) (by decide +kernel) ok_sortedD
  | int => exact blt_callT F C h ha.pa call_int1 (by decide) (by decide +kernel) (by decide +kernel) ok_int
  | str => exact blt_callT F C h ha.pa call_str_int (by decide) (by decide +kernel) (by decide +kernel) ok_str
  | repr => exact blt_call F C h ha.pa (call_reprD C.gu (hu_of' C)) (by decide) (by decide +kernel) (by decide +kernel) ok_repr
/-! ### isinstance -/
theorem ty_pe (C : Cxt X t k) {t : Ty} (ht : bTy t = true) {p : Pos} (g : Gl X (Str.ofString (tyName t))) : PE X (.Name (Str.ofString (tyName t)) p) (tC (.ty (tyName t))) := by
  have key : ∀ t ∈ [Ty.int, .bool, .tuple, .list, .str], tyName t ∈ bltNames ∧ bootBuiltins (Str.ofString (tyName t)) = some (.type (tyName t)) ∧ Str.ofString (tyName t) ≠ "__name__" ∧ (Str.ofString (tyName t) == ("__debug__" : Str)) = false := by decide +kernel
  obtain ⟨h1, h2, h3, h4⟩ := key t (bTy_mem ht)
  exact pe_bltn g (free_of C h1) h2 rfl h3 h4
theorem tysL_ok (F : Fit X Γ) {pr : Ty → Bool} : ∀ {ts : List Ty} {es : List Expr}, tysL Γ.sc pr ts es = true → ∃ ps, es = clsL ts ps ∧ ts.length = ps.length ∧ (∀ t ∈ ts, pr t = true) ∧ ∀ t ∈ ts, Gl X (Str.ofString (tyName t)) ∧ (Str.ofString (tyName t) == ("__debug__" : Str)) = false
  | [], [], _ => ⟨[], rfl, rfl, by simp, by simp⟩
  | t :: ts, e :: es, h => by
    have h' : (nameIs Γ.sc (tyName t) e = true ∧ pr t = true) ∧ tysL Γ.sc pr ts es = true := by simpa [tysL] using h
    obtain ⟨p, rfl, g, d⟩ := nameIs_ok F h'.1.1
    obtain ⟨ps, rfl, h1, h2, h3⟩ := tysL_ok F h'.2
    refine ⟨p :: ps, rfl, by simp [h1], fun u hu => ?_, fun u hu => ?_⟩
    · rcases List.mem_cons.mp hu with q | q
      · rw [q]; exact h'.1.2
      · exact h2 u q
    · rcases List.mem_cons.mp hu with q | q
      · rw [q]; exact ⟨g, d⟩
      · exact h3 u q
  | [], _ :: _, h => nomatch h
  | _ :: _, [], h => nomatch h
theorem mem_clsUses {c : String} : ∀ {ts : List Ty}, Ty.own c ∈ ts → c ≠ "ValueError" → Use.cls c ∈ clsUses ts
  | t :: ts, h, n => by
    rcases List.mem_cons.mp h with q | q
    · subst q
      unfold clsUses
      rw [if_neg n]
      simp
    · have := mem_clsUses (ts := ts) q n
      cases t <;> simp [clsUses, this]
theorem own_of (C : Cxt X t k) {ts : List Ty} (U : Uses X k (clsUses ts)) {ty : Ty} (h : ty ∈ ts) (ho : oTy ty = true) (g : Gl X (Str.ofString (tyName ty))) (d : (Str.ofString (tyName ty) == ("__debug__" : Str)) = false) : OwnC X (tyName ty) := by
  cases ty <;> first | (cases ho; done) | skip
  rename_i c
  by_cases e : c = "ValueError"
  · subst e
    exact ownC_val g (free_of C (x := "ValueError") (by decide))
  · obtain ⟨D, x, hm⟩ := U _ (mem_clsUses h e)
    exact ownC_cls x g hm d
theorem isin_ok (F : Fit X Γ) (C : Cxt X t k) {ts : List Ty} (U : Uses X k (clsUses ts)) {a : Expr} {ea : E} {y : Expr} {p pos : Pos} (h : tysC Γ.sc ts y = true) (n1 : nst a = true) (g : Gl X "isinstance") (ha : PE X a (tM X W l ea)) :
    PE X (.Call (.Name "isinstance" p) [a, y] [] pos) (tM X W l (.isin ea ts)) := by
  have hm : X.mg "isinstance" = none := free_of C (x := "isinstance") (by decide)
  unfold tysC at h
  rcases Bool.or_eq_true_iff.mp h with h | h
  · unfold tysP at h
    split at h
    · rename_i es kk p2
      simp only [Bool.and_eq_true, decide_eq_true_eq] at h
      obtain ⟨ps, rfl, h1, h2, h3⟩ := tysL_ok F h.2
      exact m_isinT h1 h.1.1 h2 g hm (fun t ht p => ty_pe C (h2 t ht) (h3 t ht).1) ha (by rw [sizeLine_eq]; have := h.1.2; omega) (star1 n1)
    · split at h
      · rename_i t
        simp only [Bool.and_eq_true] at h
        obtain ⟨p2, rfl, g2, d⟩ := nameIs_ok F h.1
        exact m_isin1 h.2 g hm (ty_pe C h.2 g2) ha (star1 n1)
      · cases h
  · unfold tysP at h
    split at h
    · rename_i es kk p2
      simp only [Bool.and_eq_true, decide_eq_true_eq] at h
      obtain ⟨ps, rfl, h1, h2, h3⟩ := tysL_ok F h.2
      exact m_isinXT h1 h.1.1 h2 g hm (fun t ht => own_of C U ht (h2 t ht) (h3 t ht).1 (h3 t ht).2) ha (by rw [sizeLine_eq]; have := h.1.2; omega) (star1 n1)
    · split at h
      · rename_i t
        simp only [Bool.and_eq_true] at h
        obtain ⟨p2, rfl, g2, d⟩ := nameIs_ok F h.1
        exact m_isinX h.2 g hm (own_of C U (by simp) h.2 g2 d) ha (star1 n1)
      · cases h
/-! ### methods -/
theorem mts {id : String} {r : V → List V → Hp → VK → Prop} (h : MtM X id r) : MtR X id r := h
end
end Mp

set_option maxRecDepth 100000
/-! Mp4d: the checks are right: methods, targets, stores; the whole. -/
namespace Mp
open PySem PySem.Spec PyProof.Rows L2

section
variable {X : Cx} {Γ : Ce} {W : WX} {l : List Nat} {t : Bool} {k : Nat}
theorem few_ok {as : List Expr} {env : Env} {pos : Pos} (h : as.all nst = true) (hl : as.length ≤ 5) : ((backTo pos (starEach as env)).all (fun x => !x.1) && (backToKw pos (keywordEach [] env)).all (fun x => x.1.isSome)
      && decide (as.length + ([] : List Keyword).length + (if ([] : List Keyword).isEmpty then 0 else 1) < 30)) = true := by
  have h1 : (backTo pos (starEach as env)).all (fun x => !x.1) = true := by
    have := stars (pos := pos) (env := env) h
    rw [List.all_eq_true]
    intro x hx
    rw [List.any_eq_false] at this
    simpa using this x hx
  rw [h1]
  simp [keywordEach, backToKw]
  omega
theorem bmC_ok {m : Bm} {v o : Expr} {as : List Expr} (h : bmC m v = some (o, as)) : ∃ ap cp, v = .Call (.Attribute o (Str.ofString m.name) ap) as [] cp ∧ noCall o = true ∧ (ap.endLine == cp.line) = true ∧ as.all nst = true ∧ as.length = m.ar ∧ bmIn m = true := by
  unfold bmC at h
  split at h
  · rename_i o' x ap as' cp
    split at h
    · rename_i hc
      cases h
      simp only [Bool.and_eq_true, decide_eq_true_eq] at hc
      obtain ⟨⟨⟨⟨⟨h0, rfl⟩, h2⟩, h3⟩, h4⟩, h5⟩ := hc
      exact ⟨ap, cp, rfl, h2, h3, h4, h5, h0⟩
    · cases h
  · cases h
theorem bm_go {m : Bm} {o : Expr} {as : List Expr} {es : EL} {ea : E} {ap cp : Pos} {name : Str} {id : String} {r : V → List V → Hp → VK → Prop} (hn : noCall o = true) (hline : (ap.endLine == cp.line) = true) (ho : PE X o (tM X W l ea)) (ha : PAs X W l as es) (hz : as.length ≤ 5) (pt : PlainAttrs (bmTy m))
    (slot : Slot (bmTy m) name id) (hty : typeOf (.builtin id) = pure (.type "method_descriptor")) (hm : MtR X id r) (hk : BmOk X W l m r) : PE X (.Call (.Attribute o name ap) as [] cp) (tM X W l (.bm m ea es)) := by
  cases ha with
  | nil => exact m_bm0 (a := o) (by exact pe_bm0 pt slot hty hm ho (base_ok hn) hline) hk
  | @cons a as e es n h t =>
    have all : (a :: as).all nst = true := by
      have key : ∀ {as es}, PAs X W l as es → as.all nst = true := fun {as es} t => by
        induction t with
        | nil => rfl
        | cons n _ _ ih => simp [n, ih]
      exact key (.cons n h t)
    exact m_bm (a := o) (as := []) (by exact pe_bm pt slot hty hm ho (PAs.cons n h t).pa (base_ok hn) (few_ok all hz) hline (star1 n) (stars (by simpa using (show nst a = true ∧ as.all nst = true by simpa using all).2))) hk
theorem bm_ok (hu : X.A.units + 65 < cLine) {m : Bm} {v o : Expr} {as : List Expr} {es : EL} {ea : E} (h : bmC m v = some (o, as)) (ho : PE X o (tM X W l ea)) (ha : PAs X W l as es) : PE X v (tM X W l (.bm m ea es)) := by
  obtain ⟨ap, cp, rfl, h1, h2, h3, h4, h5⟩ := bmC_ok h
  have hz : as.length ≤ 5 := by rw [h4]; cases m <;> decide
  cases m with
  | append => exact bm_go h1 h2 ho ha hz F.plainAttrs_list F.slot_list_append F.type_list_append mt_append ok_append
  | extend => exact bm_go h1 h2 ho ha hz F.plainAttrs_list F.slot_list_extend F.type_list_extend mt_extU ok_extend
  | insert => exact bm_go h1 h2 ho ha hz F.plainAttrs_list F.slot_list_insert F.type_list_insert mt_insert ok_insert
  | pop => exact bm_go h1 h2 ho ha hz F.plainAttrs_list F.slot_list_pop F.type_list_pop mt_pop ok_pop
  | popAt => exact bm_go h1 h2 ho ha hz F.plainAttrs_list F.slot_list_pop F.type_list_pop mt_popAt ok_popAt
  | reverse => exact bm_go h1 h2 ho ha hz F.plainAttrs_list F.slot_list_reverse F.type_list_reverse mt_reverse ok_reverse
  | remove => exact bm_go h1 h2 ho ha hz F.plainAttrs_list F.slot_list_remove F.type_list_remove mt_remove ok_remove
  | index => exact bm_go h1 h2 ho ha hz F.plainAttrs_list F.slot_list_index F.type_list_index (mt_indexD hu) ok_index
  | count => exact bm_go h1 h2 ho ha hz F.plainAttrs_list F.slot_list_count F.type_list_count mt_lcount ok_count
  | join => exact bm_go h1 h2 ho ha hz F.plainAttrs_str F.slot_str_join F.type_str_join mt_join ok_join
  | split => exact bm_go h1 h2 ho ha hz F.plainAttrs_str F.slot_str_split F.type_str_split mt_split ok_split
/-! ### targets -/
theorem nmOf_ok {e : Expr} {x : Str} (h : nmOf e = some x) : ∃ p, e = .Name x p := by
  unfold nmOf at h
  split at h
  · cases h; exact ⟨_, rfl⟩
  · cases h
theorem slotsC_ok (F : Fit X Γ) : ∀ {es : List Expr} {is : List Nat}, slotsC Γ es is = true → PGs X es (gNs is) ∧ (assignEach es X.env).length = is.length ∧ (assignEach es X.env).findIdx? (·.1) = none
  | [], [], _ => ⟨pgs_nil, rfl, rfl⟩
  | e :: es, i :: is, h => by
    unfold slotsC at h
    rw [Bool.and_eq_true] at h
    obtain ⟨h0, h'⟩ := h
    split at h0
    · rename_i x ex
      obtain ⟨p, rfl⟩ := nmOf_ok ex
      obtain ⟨h1, h2, h3⟩ := slotsC_ok F h'
      obtain ⟨q1, q2, q3⟩ := slotC_ok F h0
      refine ⟨pgs_cons (pg_name (by rw [F.N]; exact F.nd) q1 q2 q3) h1 rfl, by show (assignEach es X.env).length + 1 = _; rw [h2]; rfl, ?_⟩
      show List.findIdx? (·.1) ((false, assign (.Name x p) X.env) :: assignEach es X.env) = none
      rw [List.findIdx?_cons, h3]
      rfl
    · cases h0
  | [], _ :: _, h => nomatch h
  | _ :: _, [], h => nomatch h
theorem tgC_ok (F : Fit X Γ) (hc : X.calm = true) {v : Expr} {tg : List Nat} (h : tgC Γ v tg = true) : PG X v (tgM X.K tg) := by
  unfold tgC at h
  split at h
  · split at h
    · obtain ⟨q1, q2, q3⟩ := slotC_ok F h
      exact pg_name (by rw [F.N]; exact F.nd) q1 q2 q3
    · cases h
  · rename_i es k pos
    simp only [Bool.and_eq_true, decide_eq_true_eq] at h
    obtain ⟨h1, h2, h3⟩ := slotsC_ok F h.2
    have q : PG X _ (gTup X.K tg.length (gNs tg)) := pg_tup (k := k) (pos := pos) hc h1 h2 h3
    cases tg with
    | nil => simp at h
    | cons i is =>
      cases is with
      | nil => simp at h
      | cons j js => exact q
  · cases h
/-! ### stores -/
theorem blk_fun {env : Env} (hk : env.scope.kind = .function) : env.blockKind = .function := by unfold Env.blockKind; rw [hk]; rfl
theorem sw_none {env : Env} {ts : List Expr} {v : Expr} {k : Nat} {p : Pos} (h : noTup v = true) : swappedStores [.Tuple ts k p] v env = pure none := by
  cases v <;> first | rfl | cases h
theorem par_sw {env : Env} {x y : Str} {px py pt pt2 : Pos} {kt k2 : Nat} {a b : Expr} (hk : env.scope.kind = .function) (h : parC env.scope x y px py a b = true) :
    swappedStores [.Tuple [.Name x px, .Name y py] kt pt] (.Tuple [a, b] k2 pt2) env = pure (some [x, y]) := by
  unfold parC at h
  simp only [Bool.and_eq_true, Bool.not_eq_true'] at h
  obtain ⟨⟨⟨⟨⟨⟨⟨h1, h2⟩, h3⟩, h4⟩, h5⟩, h6⟩, h7⟩, h8⟩ := h
  have hx : env.kindOf x = some .local := locC_ok h1
  have hy : env.kindOf y = some .local := locC_ok h2
  have hb := blk_fun hk
  have e3 : px.line = py.line := by simpa using h3
  have nab : ∀ f : Expr → Bool, (∀ e, f e = !nst e) → [a, b].any f = false := fun f hf => by simp [hf, h7, h8]
  have nxy : (x == y) = false := h4
  have nyx : (y == x) = false := by
    rw [beq_eq_false_iff_ne] at nxy ⊢
    exact Ne.symm nxy
  unfold swappedStores
  simp only [hb]
  rw [nab _ (by intro e; cases e <;> rfl)]
  simp [hx, hy, e3, h5, h6, List.eraseDups_cons, nxy, nyx, Expr.pos]
theorem filterMap_lt {α β : Type} {f : α → Option β} : ∀ {ts : List α}, (∃ t ∈ ts, f t = none) → (ts.filterMap f).length < ts.length
  | [], ⟨_, h, _⟩ => nomatch h
  | t :: ts, ⟨u, hu, e⟩ => by
    rw [List.filterMap_cons]
    cases ft : f t with
    | none =>
      have := List.length_filterMap_le f ts
      simp; omega
    | some b =>
      have : ∃ v ∈ ts, f v = none := by
        rcases List.mem_cons.mp hu with q | q
        · rw [q, ft] at e; cases e
        · exact ⟨u, q, e⟩
      have := filterMap_lt this
      simp; omega
theorem unp_sw {env : Env} {ts : List Expr} {v : Expr} {k : Nat} {p : Pos} (h : unpC env.scope ts v = true) : swappedStores [.Tuple ts k p] v env = pure none := by
  unfold unpC at h
  split at h
  · rename_i vs k2 p2
    simp only [Bool.or_eq_true, Bool.not_eq_true'] at h
    unfold swappedStores
    simp only
    split
    · rfl
    · rename_i c1
      split
      · rfl
      · split
        · rfl
        · rename_i c3
          split
          · rfl
          · rename_i c4
            exfalso
            rcases h with (h | h) | h
            · simp [h] at c1
            · exact c4 h
            · obtain ⟨t, ht, q⟩ := List.any_eq_true.mp h
              simp only [Bool.or_eq_true, bne_iff_ne, not_or, ne_eq, Decidable.not_not] at c3
              refine absurd c3.1 (Nat.ne_of_lt (filterMap_lt ⟨t, ht, ?_⟩))
              cases t with
              | Name x px =>
                have q : locC env.scope x = false := by simpa [nmOf] using q
                have q2 : (env.kindOf x == some NameKind.local) = false := by
                  unfold locC at q
                  rw [beq_eq_false_iff_ne]
                  intro e
                  have e : env.scope.names.lookup x = some .local := e
                  rw [e] at q
                  cases q
                simp [q2]
              | _ => rfl
  · rfl
  · exact sw_none (by cases v <;> first | rfl | (cases h; done) | simp_all)
end
end Mp

set_option maxHeartbeats 2000000
set_option maxRecDepth 100000
/-! Mp4e: what is checked holds. -/
namespace Mp
open PySem PySem.Spec PyProof.Rows L2

section
variable {X : Cx} {Γ : Ce} {W : WX} {l : List Nat} {k : Nat}
/-- both readings -/
def Both (X : Cx) (W : WX) (l : List Nat) (Γ : Ce) (e : E) (v : Expr) : Prop :=
  (chkE false Γ e v = true → PE X v (tM X W l e)) ∧ (chkE true Γ e v = true → PT X v (tMt X W l e) ∧ ∀ o es p, v = .BoolOp o es p → PW X v (tMt X W l e))
theorem both {e : E} {v : Expr} (key : ∀ t, chkE t Γ e v = true → PE X v (tM X W l e) ∧ plainT v = true) : Both X W l Γ e v :=
  ⟨fun h => (key _ h).1, fun h => ⟨pt_of (key _ h).1 (plainT_ok (key _ h).2), fun o es p e => by have := (key _ h).2; rw [e] at this; cases this⟩⟩
theorem bothT {e : E} {v : Expr} (h1 : chkE false Γ e v = true → PE X v (tM X W l e)) (h2 : chkE true Γ e v = true → PT X v (tMt X W l e) ∧ ∀ o es p, v ≠ .BoolOp o es p) : Both X W l Γ e v :=
  ⟨h1, fun h => ⟨(h2 h).1, fun o es p e => absurd e ((h2 h).2 o es p)⟩⟩
theorem and2 {a b : Bool} (h : (a && b) = true) : a = true ∧ b = true := by simpa using h
theorem blk_fit {s : Shared} {H : Hp} {scope : Scope} {cl : List (Str × Addr)} {C : Addr} {fp : List Addr} (F : Fit X Γ) (hk : scope.kind = .function) : Fit (X.blk s H scope (compEnvC scope cl C X.env) fp) (blkCe Γ scope) :=
  ⟨F.N, by show relS scope X.env.scope = _; rw [F.sc]; rfl, rfl, F.nd, F.calm, (by show (relS scope X.env.scope).kind = _; exact hk), fun q => by cases q⟩
theorem blkX_fit {s : Shared} {H : Hp} {scope : Scope} {cl : List (Str × Addr)} {C : Addr} {fp : List Addr} {xe : Value → Shared → Prop} (F : Fit X Γ) (hk : scope.kind = .function) : Fit (blkX X s H scope (compEnvC scope cl C X.env) fp xe) (blkCe Γ scope) :=
  ⟨F.N, by show relS scope X.env.scope = _; rw [F.sc]; rfl, rfl, F.nd, F.calm, (by show (relS scope X.env.scope).kind = _; exact hk), fun q => by cases q⟩
theorem blk_cxt {s : Shared} {H : Hp} {scope : Scope} {cenv : Env} {fp : List Addr} {t : Bool} (C : Cxt X t k) : Cxt (X.blk s H scope cenv fp) t k := ⟨C.room, C.gu, C.free⟩
theorem takesF : Takes X WF := fun u s' ⟨_, _, _, _, _, _, _, _, _, _, _, _, _, _, _, _, w⟩ => w.elim
structure CompOk (X : Cx) (W : WX) (l : List Nat) (Γ : Ce) (e : E) (tg : List Nat) (src : Mp.It) (c : E) (v : Expr) : Prop where
  cm : X.calm = true
  ex : ∃ elt tgx iter ifs scope pos own, v = .ListComp elt [⟨tgx, iter, ifs, 0⟩] scope pos ∧ PI X tgx iter (iM X W l src) ∧ BlkOk X.N X.env.scope scope own ∧ own.map (·.2) = tg ∧
    (∀ (s : Shared) (H : Hp) (C : Addr) (cl : List (Str × Addr)) (fp : List Addr), PG (X.blk s H scope (compEnvC scope cl C X.env) fp) tgx (tgM X.K tg)) ∧
    (∀ (s : Shared) (H : Hp) (C : Addr) (cl : List (Str × Addr)) (fp : List Addr), PTs (X.blk s H scope (compEnvC scope cl C X.env) fp) ifs (tcM X l c)) ∧
    (∀ (s : Shared) (H : Hp) (C : Addr) (cl : List (Str × Addr)) (fp : List Addr), PE (X.blk s H scope (compEnvC scope cl C X.env) fp) elt (tM X WF l e)) ∧ (∀ x, foldedSetIterable iter X.env x = pure x)
theorem comp_ok {e c : E} {tg : List Nat} {src : Mp.It} {v : Expr} {t : Bool} (F : Fit X Γ) (C : Cxt X Γ.hot k) (U : Uses X k (usesE Γ.hot (.comp e tg src c))) (h : chkE t Γ (.comp e tg src c) v = true)
    (ihE : ∀ {X' : Cx} {Γ' : Ce} {v : Expr}, Fit X' Γ' → Cxt X' Γ'.hot k → Takes X' WF → Uses X' k (usesE Γ'.hot e) → Both X' WF l Γ' e v) (ihC : ∀ {X' : Cx} {Γ' : Ce} {v : Expr}, Fit X' Γ' → Cxt X' Γ'.hot k → Takes X' WF → Uses X' k (usesE Γ'.hot c) → Both X' WF l Γ' c v)
    (ihI : ∀ {tgx v : Expr}, tupT src tgx = true → chkI Γ src v = true → PI X tgx v (iM X W l src)) : CompOk X W l Γ e tg src c v := by
  unfold chkE at h
  split at h
  · rename_i elt tgx iter ifs scope pos
    obtain ⟨h, he⟩ := and2 h
    obtain ⟨h, hc⟩ := and2 h
    obtain ⟨h, hi⟩ := and2 h
    obtain ⟨h, hu⟩ := and2 h
    obtain ⟨h, hn⟩ := and2 h
    obtain ⟨h, ht⟩ := and2 h
    obtain ⟨h, hl⟩ := and2 h
    obtain ⟨hh, hb⟩ := and2 h
    have cm := F.calm (by simpa using hh)
    have B : BlkOk X.N X.env.scope scope ((tgNames tgx).zip tg) := by rw [F.N, F.sc]; exact blkOk_by hb
    unfold usesE at U
    refine ⟨cm, elt, tgx, iter, ifs, scope, pos, _, rfl, ihI hu hi, B, ?_, fun s H C' cl fp => ?_, fun s H C' cl fp => ?_, fun s H C' cl fp => ?_, noSet_ok hn⟩
    · rw [List.map_snd_zip]
      have := of_decide_eq_true hl
      omega
    · exact tgC_ok (blk_fit F B.kind) cm ht
    · unfold tcM
      split at hc
      · rw [if_pos hc]; exact pts_nil
      · obtain ⟨hc1, hc2⟩ := and2 hc
        rw [if_neg (by simpa using hc1)]
        exact pts_one ((ihC (blk_fit F B.kind) (blk_cxt C) takesF U.right.right).2 hc2).1
      · cases hc
    · exact (ihE (blk_fit F B.kind) (blk_cxt C) takesF U.left).1 he
  · cases h
theorem CompOk.pe {e c : E} {tg : List Nat} {src : Mp.It} {v : Expr} (F : Fit X Γ) (h : CompOk X W l Γ e tg src c v) : PE X v (tM X W l (.comp e tg src c)) := by
  obtain ⟨elt, tgx, iter, ifs, scope, pos, own, rfl, hi, B, ho, hg, ht, he, hs⟩ := h.ex
  exact m_comp h.cm (by rw [F.N]; exact F.nd) hi B ho hg ht he hs
theorem tM.alloc {ea : E} (hf : ea.fresh = true) : ∀ τ H Q, tM X W l (.alloc ea) τ H Q → tM X W l ea τ H Q := by
  intro τ H Q ⟨φ, χ, σ, h, rs, hr, o⟩
  unfold evE at o
  refine ⟨φ, χ, σ, h, rs, hr, ?_⟩
  cases e : evE l ea σ h with
  | bad => rw [e] at o; exact o
  | ex x fs h' => rw [e] at o; exact o
  | ok d1 h1 =>
    rw [e] at o
    intro φ1 χ1 H1 x1 hr1 v rv
    have o : Out X W l τ φ χ H (allocV h1 d1) _ := o
    unfold allocV at o
    split at o
    · cases rv with
      | plain rv hn => exact absurd rfl (hn hf _)
      | @new p ds vs _ c1 c2 c3 c4 c5 =>
        have x2 : Ext φ χ H (φ1 ++ [p]) χ1 H1 := by
          refine ⟨⟨?_, x1.sub, x1.new, x1.keep, x1.tups, x1.frl⟩, x1.kp, fun a ha hn => ?_⟩
          · obtain ⟨r, er⟩ := x1.pre
            exact ⟨r ++ [p], by rw [er, List.append_assoc]⟩
          · rcases List.mem_append.mp ha with q | q
            · exact x1.fr a q hn
            · rw [List.mem_singleton] at q; rw [q]; exact c3
        exact o _ χ1 H1 x2 (hr1.take_in c1 c2 c4 c5) _ (.plain (.ref (by rw [← hr1.len, List.getElem?_append_right (Nat.le_refl _), Nat.sub_self]; rfl)) (fun q => by cases q))
    · exact o.elim
/-- a name takes a comprehension's list, the block's names let go behind it -/
theorem set_comp {e c ee : E} {tg : List Nat} {src : Mp.It} {v : Expr} {i : Nat} {y : Str} {py spos : Pos} (F : Fit X Γ) (h : CompOk X W l Γ e tg src c v) (k : ∀ τ H Q, tM X W l ee τ H Q → tM X W l (.comp e tg src c) τ H Q)
    (hs : slotC Γ y i = true) (he : PE X v (tM X W l ee)) : PS X (.Assign [.Name y py] v spos) (tMS X W l (.set i ee)) := by
  obtain ⟨q1, q2, q3⟩ := slotC_ok F hs
  have hN : X.N.Nodup := by rw [F.N]; exact F.nd
  obtain ⟨elt, tgx, iter, ifs, scope, pos, own, rfl, hi, B, ho, hg, ht, hel, hsf⟩ := h.ex
  have sw : swapsWith (.ListComp elt [⟨tgx, iter, ifs, 0⟩] scope pos) (some (.Name y py)) spos.line X.env = pure (X.env.blockKind == .function && X.env.kindOf y == some .local && py.line == pos.line && !(scope.names.any fun (n, k) => n == y && (k == .local || k == .cell))) := rfl
  cases hb : (X.env.blockKind == .function && X.env.kindOf y == some .local && py.line == pos.line && !(scope.names.any fun (n, k) => n == y && (k == .local || k == .cell))) with
  | false => rw [hb] at sw; exact m_set hN q1 q2 he sw q3
  | true =>
    rw [hb] at sw
    have hl : X.env.scope.names.lookup y = some .local := by
      simp only [Bool.and_eq_true, beq_iff_eq] at hb
      exact hb.1.1.2
    exact psImp (ps_setLc h.cm hN q1 hl sw hi B hg ht hel hsf) fun D τ H ⟨φ, χ, σ, h, rs, hr, o⟩ => by
      unfold exS at o
      rw [ho]
      exact comp_run (k _ _ _ (tM.st rs hr o fun φ' χ' H' d h' v x hr' rv rs' g => g.nx hr' (rs'.set i rv)))
theorem nsts_of {as : List Expr} {es : EL} (h : PAs X W l as es) : as.all nst = true := by
  induction h with
  | nil => rfl
  | cons n _ _ ih => simp [n, ih]
/-- what is asked of all parts of a term -/
def OkE (X : Cx) (W : WX) (k : Nat) (l : List Nat) (e : E) : Prop := ∀ {Γ : Ce} {v : Expr}, Fit X Γ → Cxt X Γ.hot k → Takes X W → Uses X k (usesE Γ.hot e) → Both X W l Γ e v
mutual
theorem chkE_ok : ∀ (e : E) {X : Cx} {Γ : Ce} {W : WX} {v : Expr}, Fit X Γ → Cxt X Γ.hot k → Takes X W → Uses X k (usesE Γ.hot e) → Both X W l Γ e v
  | .no, X, Γ, W, v, F, C, T, U => ⟨fun h => by simp [chkE] at h, fun h => by simp [chkE] at h⟩
  | .var i, X, Γ, W, v, F, C, T, U => both fun t h => by
    unfold chkE at h
    split at h
    · obtain ⟨h, h4⟩ := and2 h
      obtain ⟨h, h3⟩ := and2 h
      obtain ⟨h1, h2⟩ := and2 h
      exact ⟨m_var (by rw [F.N]; exact of_decide_eq_true h1) (visC_ok F h2) (by simpa using h3) (by simpa using h4), rfl⟩
    · cases h
  | .cst d, X, Γ, W, v, F, C, T, U => both fun t h => by
    unfold chkE at h
    split at h
    · split at h
      · exact ⟨m_non, rfl⟩
      · obtain rfl := of_decide_eq_true h; exact ⟨m_bl, rfl⟩
      · obtain rfl := of_decide_eq_true h; exact ⟨m_int, rfl⟩
      · obtain rfl := of_decide_eq_true h; exact ⟨m_str, rfl⟩
      · cases h
    · cases h
  | .glob x d, X, Γ, W, v, F, C, T, U => both fun t h => by
    unfold chkE at h
    obtain ⟨p, rfl, g, db⟩ := nameIs_ok F h
    exact ⟨m_glob (U (.glob x d) (by simp [usesE])) g db, rfl⟩
  | .bop o a b, X, Γ, W, v, F, C, T, U => both fun t h => by
    unfold chkE at h
    split at h
    · obtain ⟨h, h3⟩ := and2 h
      obtain ⟨h1, h2⟩ := and2 h
      unfold usesE at U
      exact ⟨bopOf_ok (of_decide_eq_true h1) ((chkE_ok a F C T U.left).1 h2) ((chkE_ok b F C T U.right).1 h3), rfl⟩
    · cases h
  | .neg a, X, Γ, W, v, F, C, T, U => both fun t h => by
    unfold chkE at h
    split at h
    · unfold usesE at U
      exact ⟨m_neg ((chkE_ok a F C T U).1 h), rfl⟩
    · cases h
  | .not a, X, Γ, W, v, F, C, T, U => bothT (fun h => by
      unfold chkE at h
      split at h
      · unfold usesE at U; exact m_not ((chkE_ok a F C T U).1 h)
      · cases h) (fun h => by
      unfold chkE at h
      split at h
      · unfold usesE at U; exact ⟨m_notT ((chkE_ok a F C T U).2 h).1, fun _ _ _ e => nomatch e⟩
      · cases h)
  | .and a b, X, Γ, W, v, F, C, T, U => by
    unfold usesE at U
    refine ⟨fun h => ?_, fun h => ?_⟩
    · unfold chkE at h
      split at h
      · rename_i x y r p
        obtain ⟨h1, h2⟩ := and2 h
        refine m_and ((chkE_ok a F C T U.left).1 h1) ?_
        cases r with
        | nil => exact pe_one ((chkE_ok b F C T U.right).1 h2)
        | cons z r => exact (chkE_ok b F C T U.right).1 h2
      · cases h
    · unfold chkE at h
      split at h
      · rename_i x y r p
        obtain ⟨h1, h2⟩ := and2 h
        have q : PW X (.BoolOp .And (x :: y :: r) p) (tMt X W l (.and a b)) := by
          refine m_andW ((chkE_ok a F C T U.left).2 h1).1 ?_
          cases r with
          | nil => exact pw_and1 ((chkE_ok b F C T U.right).2 h2).1
          | cons z r => exact ((chkE_ok b F C T U.right).2 h2).2 _ _ _ rfl
        exact ⟨q.pt, fun _ _ _ _ => q⟩
      · cases h
  | .or a b, X, Γ, W, v, F, C, T, U => by
    unfold usesE at U
    refine ⟨fun h => ?_, fun h => ?_⟩
    · unfold chkE at h
      split at h
      · rename_i x y r p
        obtain ⟨h1, h2⟩ := and2 h
        refine m_or ((chkE_ok a F C T U.left).1 h1) ?_
        cases r with
        | nil => exact pe_one ((chkE_ok b F C T U.right).1 h2)
        | cons z r => exact (chkE_ok b F C T U.right).1 h2
      · cases h
    · unfold chkE at h
      split at h
      · rename_i x y r p
        obtain ⟨h1, h2⟩ := and2 h
        have q : PW X (.BoolOp .Or (x :: y :: r) p) (tMt X W l (.or a b)) := by
          refine m_orW ((chkE_ok a F C T U.left).2 h1).1 ?_
          cases r with
          | nil => exact pw_or1 ((chkE_ok b F C T U.right).2 h2).1
          | cons z r => exact ((chkE_ok b F C T U.right).2 h2).2 _ _ _ rfl
        exact ⟨q.pt, fun _ _ _ _ => q⟩
      · cases h
  | .cmp o a b, X, Γ, W, v, F, C, T, U => by
    unfold usesE at U
    refine bothT (fun h => ?_) (fun h => ?_) <;>
    · unfold chkE at h
      split at h
      · obtain ⟨h, h4⟩ := and2 h
        obtain ⟨h, h3⟩ := and2 h
        obtain ⟨h1, h2⟩ := and2 h
        obtain rfl := copOf_ok (of_decide_eq_true h1)
        first
          | exact m_cmpo (hu_of' C) (by simpa using h2) ((chkE_ok a F C T U.left).1 h3) ((chkE_ok b F C T U.right).1 h4)
          | exact ⟨m_cmpT (hu_of' C) (by simpa using h2) ((chkE_ok a F C T U.left).1 h3) ((chkE_ok b F C T U.right).1 h4), fun _ _ _ e => nomatch e⟩
      · cases h
  | .chain o p a b c, X, Γ, W, v, F, C, T, U => by
    unfold usesE at U
    refine bothT (fun h => ?_) (fun h => ?_) <;>
    · unfold chkE at h
      split at h
      · obtain ⟨h, h6⟩ := and2 h
        obtain ⟨h, h5⟩ := and2 h
        obtain ⟨h, h4⟩ := and2 h
        obtain ⟨h, h3⟩ := and2 h
        obtain ⟨h1, h2⟩ := and2 h
        obtain rfl := copOf_ok (of_decide_eq_true h1)
        obtain rfl := copOf_ok (of_decide_eq_true h2)
        first
          | exact m_chain (hu_of' C) (by simpa using h3) ((chkE_ok a F C T U.left).1 h4) ((chkE_ok b F C T U.right.left).1 h5) ((chkE_ok c F C T U.right.right).1 h6)
          | exact ⟨m_chainT (hu_of' C) (by simpa using h3) ((chkE_ok a F C T U.left).1 h4) ((chkE_ok b F C T U.right.left).1 h5) ((chkE_ok c F C T U.right.right).1 h6), fun _ _ _ e => nomatch e⟩
      · cases h
  | .chain3 o p q a b c d, X, Γ, W, v, F, C, T, U => by
    unfold usesE at U
    refine bothT (fun h => ?_) (fun h => ?_)
    · unfold chkE at h
      split at h
      · obtain ⟨_, h⟩ := and2 h
        obtain ⟨h, h8⟩ := and2 h
        obtain ⟨h, h7⟩ := and2 h
        obtain ⟨h, h6⟩ := and2 h
        obtain ⟨h, h5⟩ := and2 h
        obtain ⟨h, h4⟩ := and2 h
        obtain ⟨h, h3⟩ := and2 h
        obtain ⟨h1, h2⟩ := and2 h
        obtain rfl := copOf_ok (of_decide_eq_true h1)
        obtain rfl := copOf_ok (of_decide_eq_true h2)
        obtain rfl := copOf_ok (of_decide_eq_true h3)
        exact m_chain3 (hu_of' C) (by simpa using h4) ((chkE_ok a F C T U.left).1 h5) ((chkE_ok b F C T U.right.left).1 h6) ((chkE_ok c F C T U.right.right.left).1 h7) ((chkE_ok d F C T U.right.right.right).1 h8)
      · cases h
    · unfold chkE at h
      split at h
      · obtain ⟨h, _⟩ := and2 h
        cases h
      · cases h
  | .isN a, X, Γ, W, v, F, C, T, U => by
    unfold usesE at U
    refine bothT (fun h => ?_) (fun h => ?_) <;>
    · unfold chkE at h
      split at h
      · first
          | exact m_isN ((chkE_ok a F C T U).1 h)
          | exact ⟨m_isNT ((chkE_ok a F C T U).1 h), fun _ _ _ e => nomatch e⟩
      · cases h
  | .notN a, X, Γ, W, v, F, C, T, U => by
    unfold usesE at U
    refine bothT (fun h => ?_) (fun h => ?_) <;>
    · unfold chkE at h
      split at h
      · first
          | exact m_notN ((chkE_ok a F C T U).1 h)
          | exact ⟨m_notNT ((chkE_ok a F C T U).1 h), fun _ _ _ e => nomatch e⟩
      · cases h
  | .isB a b, X, Γ, W, v, F, C, T, U => by
    unfold usesE at U
    refine bothT (fun h => ?_) (fun h => ?_) <;>
    · unfold chkE at h
      split at h
      · obtain ⟨h1, h2⟩ := and2 h
        obtain rfl := of_decide_eq_true h1
        first
          | exact m_isB ((chkE_ok a F C T U).1 h2)
          | exact ⟨m_isBT ((chkE_ok a F C T U).1 h2), fun _ _ _ e => nomatch e⟩
      · cases h
  | .notB a b, X, Γ, W, v, F, C, T, U => by
    unfold usesE at U
    refine bothT (fun h => ?_) (fun h => ?_) <;>
    · unfold chkE at h
      split at h
      · obtain ⟨h1, h2⟩ := and2 h
        obtain rfl := of_decide_eq_true h1
        first
          | exact m_notB ((chkE_ok a F C T U).1 h2)
          | exact ⟨m_notBT ((chkE_ok a F C T U).1 h2), fun _ _ _ e => nomatch e⟩
      · cases h
  | .ite c a b, X, Γ, W, v, F, C, T, U => by
    unfold usesE at U
    refine bothT (fun h => ?_) (fun h => ?_)
    · unfold chkE at h
      split at h
      · obtain ⟨h, h3⟩ := and2 h
        obtain ⟨h, h2⟩ := and2 h
        obtain ⟨_, h1⟩ := and2 h
        exact m_ite ((chkE_ok c F C T U.left).2 h1).1 ((chkE_ok a F C T U.right.left).1 h2) ((chkE_ok b F C T U.right.right).1 h3)
      · cases h
    · unfold chkE at h
      split at h
      · simp at h
      · cases h
  | .tup es, X, Γ, W, v, F, C, T, U => both fun t h => by
    unfold chkE at h
    split at h
    · unfold usesE at U
      exact ⟨m_tup (chkL_ok es F C T U h).pa, rfl⟩
    · cases h
  | .lst es, X, Γ, W, v, F, C, T, U => both fun t h => by
    unfold chkE at h
    split at h
    · unfold usesE at U
      exact ⟨m_lst (chkL_ok es F C T U h).pa, rfl⟩
    · cases h
  | .ix a b, X, Γ, W, v, F, C, T, U => both fun t h => by
    unfold chkE at h
    split at h
    · obtain ⟨h, h3⟩ := and2 h
      obtain ⟨h1, h2⟩ := and2 h
      unfold usesE at U
      exact ⟨m_ix (plainIx_ok h1) ((chkE_ok a F C T U.left).1 h2) ((chkE_ok b F C T U.right).1 h3), rfl⟩
    · cases h
  | .sl a lo hi, X, Γ, W, v, F, C, T, U => both fun t h => by
    unfold chkE at h
    split at h
    · obtain ⟨h, h3⟩ := and2 h
      obtain ⟨h1, h2⟩ := and2 h
      unfold usesE at U
      refine ⟨m_sl ((chkE_ok a F C T U.left).1 h1) ?_ ?_, rfl⟩
      · split at h2
        · cases lo with
          | no => exact m_noPart
          | _ => cases h2
        · obtain ⟨q1, q2⟩ := and2 h2
          exact m_part (by simpa using q1) ((chkE_ok lo F C T U.right.left).1 q2)
      · split at h3
        · cases hi with
          | no => exact m_noPart
          | _ => cases h3
        · obtain ⟨q1, q2⟩ := and2 h3
          exact m_part (by simpa using q1) ((chkE_ok hi F C T U.right.right).1 q2)
    · cases h
  | .rev a, X, Γ, W, v, F, C, T, U => both fun t h => by
    unfold chkE at h
    split at h
    · unfold usesE at U
      exact ⟨m_rev ((chkE_ok a F C T U).1 h), rfl⟩
    · cases h
  | .call x f es, X, Γ, W, v, F, C, T, U => both fun t h => by
    unfold chkE at h
    split at h
    · rename_i f' as pos
      obtain ⟨h, h3⟩ := and2 h
      obtain ⟨h1, h2⟩ := and2 h
      obtain ⟨p, rfl, g, db⟩ := nameIs_ok F h1
      unfold usesE at U
      have c : CallOk X.prog X.w X.K X.mg X.base Γ.hot k x f := U (.fn Γ.hot x f) (by simp)
      have q := chkL_ok (W := W) es F C T (fun u hu => U u (by simp [hu])) h3
      cases q with
      | nil => exact ⟨m_call0 c C.room C.gu T g db, rfl⟩
      | @cons a as e es n pe t =>
        have h2' : as.all nst = true := by
          have : nst a = true ∧ as.all nst = true := by simpa using h2
          exact this.2
        exact ⟨m_call c C.room C.gu T g db (PAs.cons n pe t).pa (star1 n) (stars h2'), rfl⟩
    · cases h
  | .blt b es, X, Γ, W, v, F, C, T, U => by
    by_cases hb : b.isInR = true
    · obtain ⟨neg, two, rfl⟩ : ∃ neg two, b = .inR neg two := by
        cases b <;> first | (cases hb; done) | exact ⟨_, _, rfl⟩
      have key : ∀ t, chkE t Γ (.blt (.inR neg two) es) v = true → PE X v (tM X W l (.blt (.inR neg two) es)) ∧ PT X v (tMt X W l (.blt (.inR neg two) es)) ∧ ∀ o es p, v ≠ .BoolOp o es p := fun t h => by
        unfold chkE at h
        split at h
        · rename_i as e
          unfold usesE at U
          unfold bltC at e
          split at e
          · cases e
          · exact inR_ok F C e (chkL_ok es F C T U h)
        · cases h
      exact bothT (fun h => (key _ h).1) (fun h => (key _ h).2)
    refine both fun t h => ?_
    unfold chkE at h
    split at h
    · rename_i as e
      unfold usesE at U
      refine ⟨blt_ok F C e (chkL_ok es F C T U h), ?_⟩
      cases v <;> first
        | rfl
        | (exfalso; unfold bltC at e; split at e; · cases e
           cases b <;> first | exact hb rfl | simp [call1C, call2C] at e)
    · cases h
  | .isin a ts, X, Γ, W, v, F, C, T, U => both fun t h => by
    unfold chkE at h
    split at h
    · obtain ⟨h, h5⟩ := and2 h
      obtain ⟨h, h4⟩ := and2 h
      obtain ⟨h, h3⟩ := and2 h
      obtain ⟨h1, h2⟩ := and2 h
      obtain ⟨p, rfl, g, db⟩ := nameIs_ok F h1
      unfold usesE at U
      exact ⟨isin_ok F C U.left h4 h2 g ((chkE_ok a F C T U.right).1 h5), rfl⟩
    · cases h
  | .comp e tg src c, X, Γ, W, v, F, C, T, U => both fun t h => by
    have q : CompOk X W l Γ e tg src c v := comp_ok F C U h (fun F' C' T' U' => chkE_ok e F' C' T' U') (fun F' C' T' U' => chkE_ok c F' C' T' U') (fun t h => chkI_ok src F C T (by unfold usesE at U; exact U.right.left) t h)
    refine ⟨q.pe F, ?_⟩
    obtain ⟨_, _, _, _, _, _, _, rfl, _⟩ := q.ex
    rfl
  | .compX e tg src, X, Γ, W, v, F, C, T, U => both fun t h => by
    unfold chkE at h
    split at h
    · rename_i elt tgx iter scope pos
      obtain ⟨h, he⟩ := and2 h
      obtain ⟨h, hi⟩ := and2 h
      obtain ⟨h, hu⟩ := and2 h
      obtain ⟨h, hn⟩ := and2 h
      obtain ⟨h, ht⟩ := and2 h
      obtain ⟨h, hl⟩ := and2 h
      obtain ⟨h, hb⟩ := and2 h
      obtain ⟨hp, hh⟩ := and2 h
      obtain ⟨s1, s2⟩ := F.top hp
      have cm := F.calm (by simpa using hh)
      have B : BlkOk X.N X.env.scope scope ((tgNames tgx).zip tg) := by rw [F.N, F.sc]; exact blkOk_by hb
      unfold usesE at U
      refine ⟨m_compX T s1 s2 cm (by rw [F.N]; exact F.nd) (chkI_ok src F C T U.right hu hi) B ?_ (fun s H C' cl fp xe => ?_) (fun Wb s H C' cl fp xe tk => ?_) (noSet_ok hn), rfl⟩
      · rw [List.map_snd_zip]
        have := of_decide_eq_true hl
        omega
      · exact tgC_ok (blkX_fit F B.kind) cm ht
      · exact (chkE_ok e (blkX_fit F B.kind) ⟨C.room, C.gu, C.free⟩ tk U.left).1 he
    · cases h
  | .alloc e, X, Γ, W, v, F, C, T, U => by
    unfold usesE at U
    refine ⟨fun h => ?_, fun h => ?_⟩
    · unfold chkE at h
      obtain ⟨h, h2⟩ := and2 h
      obtain ⟨_, h1⟩ := and2 h
      exact m_alloc h1 ((chkE_ok e F C T U).1 h2)
    · unfold chkE at h
      simp at h
  | .vals i k j, X, Γ, W, v, F, C, T, U => by
    refine ⟨fun h => ?_, fun h => ?_⟩
    · unfold chkE at h
      split at h
      · obtain ⟨h, h7⟩ := and2 h
        obtain ⟨h, h6⟩ := and2 h
        obtain ⟨h, h5⟩ := and2 h
        obtain ⟨h, h4⟩ := and2 h
        obtain ⟨h, h3⟩ := and2 h
        obtain ⟨h1, h2⟩ := and2 h
        obtain ⟨h5, e3⟩ := and2 h5
        obtain ⟨e1, e2⟩ := and2 h5
        have e1 := of_decide_eq_true e1
        have e2 := of_decide_eq_true e2
        subst e1 e2
        have cm := F.calm (by simpa using h2)
        have B := blkOk_by h3
        rw [← F.N, ← F.sc] at B
        obtain ⟨h6, d1⟩ := and2 h6
        obtain ⟨h6, d2⟩ := and2 h6
        obtain ⟨d3, d4⟩ := and2 h6
        obtain ⟨h7, g1⟩ := and2 h7
        obtain ⟨h7, g2⟩ := and2 h7
        obtain ⟨g3, g4⟩ := and2 h7
        exact m_vals cm (by rw [F.N]; exact F.nd) B rfl (pe_var (by rw [F.N]; exact of_decide_eq_true d3) (visC_ok F d4) (by simpa using d2) (by simpa using d1)) rfl e3
          (fun s H C' cl fp => tgC_ok (tg := [i]) (blk_fit F B.kind) cm (show tgC (blkCe Γ _) (.Name _ _) [i] = true from h4))
          (fun s H C' cl fp => pe_var (by rw [(blk_fit F B.kind).N]; exact of_decide_eq_true g3) (visC_ok (blk_fit F B.kind) g4) (by simpa using g2) (by simpa using g1))
      · cases h
    · unfold chkE at h
      split at h
      · simp at h
      · cases h
  | .pick ps a, X, Γ, W, v, F, C, T, U => both fun t h => by
    unfold chkE at h
    split at h
    · obtain ⟨h, h5⟩ := and2 h
      obtain ⟨h, h4⟩ := and2 h
      obtain ⟨h, h3⟩ := and2 h
      obtain ⟨h1, h2⟩ := and2 h
      unfold usesE at U
      refine ⟨m_pick (by have := hu_of' C; omega) (plainSl_ok h1) h2 (fun e => by subst e; cases h3) (Nat.ble_eq.mp h4) ((chkE_ok a F C T U).1 h5), rfl⟩
    · cases h
  | .fld _ _, X, Γ, W, v, F, C, T, U => ⟨fun h => by simp [chkE] at h, fun h => by simp [chkE] at h⟩
  | .xfld a f, X, Γ, W, v, F, C, T, U => both fun t h => by
    unfold chkE at h
    split at h
    · obtain ⟨h, h3⟩ := and2 h
      obtain ⟨h1, h2⟩ := and2 h
      obtain rfl := of_decide_eq_true h2
      unfold usesE at U
      exact ⟨m_xfld ((chkE_ok a F C T U).1 h3) (base_ok h1), rfl⟩
    · cases h
  | .meth _ _ _ _ _, X, Γ, W, v, F, C, T, U => ⟨fun h => by simp [chkE] at h, fun h => by simp [chkE] at h⟩
  | .make _ _ _, X, Γ, W, v, F, C, T, U => ⟨fun h => by simp [chkE] at h, fun h => by simp [chkE] at h⟩
  | .mkx c es, X, Γ, W, v, F, C, T, U => both fun t h => by
    unfold chkE at h
    unfold usesE at U
    split at h
    · rename_i f as pos
      obtain ⟨h, h3⟩ := and2 h
      obtain ⟨h2, h1⟩ := and2 h
      obtain ⟨p, rfl, g, db⟩ := nameIs_ok F h2
      obtain ⟨j, hj, z⟩ : ∃ j, j + 1 ≤ k ∧ RzOk X.prog X.w X.K X.mg X.base j c := U (.rz c) (by simp)
      have ht : Γ.hot = false := by simpa using h1
      have room : Room (j + 1) X.A := by
        have r := C.room
        rw [ht] at r
        exact (r.mono hj).room
      split at h3
      · rename_i he
        unfold rz0 at h3
        split at h3
        · exact ⟨m_mkx0 z he g db, rfl⟩
        · cases h3
      · rename_i he
        obtain ⟨h6, h5⟩ := and2 h3
        obtain ⟨h7, h4⟩ := and2 h6
        have q := chkL_ok (W := W) es F C T (fun u hu => U u (by simp [hu])) h5
        cases q with
        | nil => simp at h4
        | @cons a as e es n pe t =>
          have h2' : as.all nst = true := by
            have : nst a = true ∧ as.all nst = true := by simpa using h7
            exact this.2
          exact ⟨m_mkx1 z he room g db (PAs.cons n pe t).pa (star1 n) (stars h2'), rfl⟩
    · cases h
  | .bm m a es, X, Γ, W, v, F, C, T, U => both fun t h => by
    unfold chkE at h
    split at h
    · rename_i o as e
      obtain ⟨h1, h2⟩ := and2 h
      unfold usesE at U
      obtain ⟨ap, cp, rfl, _, _, _, _, _⟩ := bmC_ok e
      exact ⟨bm_ok (hu_of' C) e ((chkE_ok a F C T U.left).1 h1) (chkL_ok es F C T U.right h2), rfl⟩
    · cases h
theorem chkL_ok : ∀ (es : EL) {X : Cx} {Γ : Ce} {W : WX} {as : List Expr}, Fit X Γ → Cxt X Γ.hot k → Takes X W → Uses X k (usesL Γ.hot es) → chkL Γ es as = true → PAs X W l as es
  | .nil, X, Γ, W, as, F, C, T, U, h => by
    unfold chkL at h
    cases as with
    | nil => exact .nil
    | cons _ _ => cases h
  | .cons e es, X, Γ, W, as, F, C, T, U, h => by
    unfold chkL at h
    split at h
    · obtain ⟨h, h3⟩ := and2 h
      obtain ⟨h1, h2⟩ := and2 h
      unfold usesL at U
      exact .cons h1 ((chkE_ok e F C T U.left).1 h2) (chkL_ok es F C T U.right h3)
    · cases h
theorem chkI_ok : ∀ (i : Mp.It) {X : Cx} {Γ : Ce} {W : WX} {tgx v : Expr}, Fit X Γ → Cxt X Γ.hot k → Takes X W → Uses X k (usesI Γ.hot i) → tupT i tgx = true → chkI Γ i v = true → PI X tgx v (iM X W l i)
  | .seq a, X, Γ, W, tgx, v, F, C, T, U, ht, h => by
    unfold chkI at h
    unfold usesI at U
    exact m_srcSeq ((chkE_ok a F C T U).1 h)
  | .rg1 a, X, Γ, W, tgx, v, F, C, T, U, ht, h => by
    unfold chkI at h
    unfold usesI at U
    split at h
    · rename_i x e
      obtain ⟨p, pos, a', as', rfl, e2, g, d, n1, n2⟩ := call1C_ok F e
      cases e2
      exact m_srcRg1 g (free_of C (x := "range") (by decide)) ((chkE_ok a F C T U).1 h) (star1 n1)
    · cases h
  | .rg2 a b, X, Γ, W, tgx, v, F, C, T, U, ht, h => by
    unfold chkI at h
    unfold usesI at U
    split at h
    · rename_i x y e
      obtain ⟨p, pos, a', as', rfl, e2, g, d, n1, n2⟩ := call1C_ok F e
      cases e2
      obtain ⟨h1, h2⟩ := and2 h
      have n3 : nst y = true := by simpa using n2
      exact m_srcRg2 g (free_of C (x := "range") (by decide)) ((chkE_ok a F C T U.left).1 h1) ((chkE_ok b F C T U.right).1 h2) (by rw [star1 n1, star1 n3]; rfl) (star1 n3)
    · cases h
  | .enum a, X, Γ, W, tgx, v, F, C, T, U, ht, h => by
    unfold chkI at h
    unfold usesI at U
    unfold tupT at ht
    split at h
    · rename_i x e
      obtain ⟨p, pos, a', as', rfl, e2, g, d, n1, n2⟩ := call1C_ok F e
      cases e2
      cases tgx with
      | Tuple elts kk tp => exact m_srcEnum g (free_of C (x := "enumerate") (by decide)) ((chkE_ok a F C T U).1 h) (star1 n1)
      | _ => cases ht
    · cases h
  | .zip a b, X, Γ, W, tgx, v, F, C, T, U, ht, h => by
    unfold chkI at h
    unfold usesI at U
    unfold tupT at ht
    split at h
    · rename_i x y e
      obtain ⟨p, pos, a', as', rfl, e2, g, d, n1, n2⟩ := call1C_ok F e
      cases e2
      obtain ⟨h1, h2⟩ := and2 h
      have n3 : nst y = true := by simpa using n2
      cases tgx with
      | Tuple elts kk tp => exact m_srcZip g (free_of C (x := "zip") (by decide)) ((chkE_ok a F C T U.left).1 h1) ((chkE_ok b F C T U.right).1 h2) (star1 n1) (star1 n3) (stars n2)
      | _ => cases ht
    · cases h
end
/-! ### statements -/
structure StOk (X : Cx) : Prop where
  ps : PassesOwn (model X.prog X.w) X.A X.env X.xe
  hs : X.stack = X.env :: X.outer
  hf : X.env.frame = some X.env.locals
  hex : X.ex = []
theorem assign_ix {o i : Expr} {pos : Pos} {env : Env} (h : plainIx i = true) : ∀ v, assign (.Subscript o i pos) env v = (do
      let ov ← holding [v] (eval o env)
      let iv ← holding [v, ov] (eval i env)
      standAt pos
      holding [v, ov, iv] (PySem.setItem ov iv v)
      release [v, ov, iv] []) := by
  intro v
  cases i <;> first | rfl | cases h
mutual
theorem chkS_ok : ∀ (s : S) {X : Cx} {Γ : Ce} {W : WX} {st : Stmt}, Fit X Γ → Cxt X Γ.hot k → Takes X W → StOk X → Uses X k (usesS Γ.hot s) → chkS Γ s st = true → PS X st (tMS X W l s)
  | .ex e, X, Γ, W, st, F, C, T, P, U, h => by
    unfold chkS at h
    unfold usesS at U
    split at h
    · obtain ⟨h1, h2⟩ := and2 h
      exact m_ex ((chkE_ok e F C T U).1 h2) (noLc_ok h1 _ _)
    · cases h
  | .set i e, X, Γ, W, st, F, C, T, P, U, h => by
    unfold chkS at h
    unfold usesS at U
    split at h
    · rename_i x p v pos
      obtain ⟨h, h3⟩ := and2 h
      obtain ⟨h1, h2⟩ := and2 h
      obtain ⟨q1, q2, q3⟩ := slotC_ok F h1
      have pe : PE X v (tM X W l e) := (chkE_ok e F C T U).1 h2
      have plain : noLc v = true → PS X (.Assign [.Name x p] v pos) (tMS X W l (.set i e)) := fun hn => m_set (by rw [F.N]; exact F.nd) q1 q2 pe (noLc_ok hn _ _) q3
      cases hn : noLc v with
      | true => exact plain hn
      | false =>
        have hc : isLc e = true := by rw [hn] at h3; simpa using h3
        match e, U, h2, pe, hc with
        | .comp e' tg src c, U, h2, pe, _ =>
          have q : CompOk X W l Γ e' tg src c v := comp_ok F C U h2 (fun F' C' T' U' => chkE_ok e' F' C' T' U') (fun F' C' T' U' => chkE_ok c F' C' T' U') (fun t h => chkI_ok src F C T (by unfold usesE at U; exact U.right.left) t h)
          exact set_comp F q (fun _ _ _ z => z) h1 pe
        | .alloc (.comp e' tg src c), U, h2, pe, _ =>
          have U' : Uses X k (usesE Γ.hot (.comp e' tg src c)) := by unfold usesE at U; exact U
          have h4 : chkE false Γ (.comp e' tg src c) v = true := by
            have h2' : (!false && (E.comp e' tg src c).fresh && chkE false Γ (.comp e' tg src c) v) = true := h2
            exact (and2 h2').2
          have q : CompOk X W l Γ e' tg src c v := comp_ok F C U' h4 (fun F' C' T' U' => chkE_ok e' F' C' T' U') (fun F' C' T' U' => chkE_ok c F' C' T' U') (fun t h => chkI_ok src F C T (by unfold usesE at U'; exact U'.right.left) t h)
          exact set_comp F q (tM.alloc rfl) h1 pe
    · cases h
  | .unp is e, X, Γ, W, st, F, C, T, P, U, h => by
    unfold chkS at h
    unfold usesS at U
    split at h
    · rename_i ts k' tp v pos
      obtain ⟨h, h3⟩ := and2 h
      obtain ⟨h, h2⟩ := and2 h
      obtain ⟨hh, h1⟩ := and2 h
      obtain ⟨q1, q2, q3⟩ := slotsC_ok F h1
      refine m_unp ((chkE_ok e F C T U).1 h3) (pg_tl (F.calm (by simpa using hh)) q1 q2 q3) ?_ (unp_sw (by rw [F.sc]; exact h2)) rfl
      show swapsWith v (some (.Tuple ts k' tp)) pos.line X.env = pure false
      cases v <;> first | rfl | (simp [unpC, noLc] at h2)
    · cases h
  | .par i j es, X, Γ, W, st, F, C, T, P, U, h => by
    unfold chkS at h
    unfold usesS at U
    split at h
    · rename_i x px y py k1 p1 a b k2 p2 pos
      obtain ⟨h, h5⟩ := and2 h
      obtain ⟨h, h4⟩ := and2 h
      obtain ⟨h, h3⟩ := and2 h
      obtain ⟨h, h2⟩ := and2 h
      obtain ⟨hh, h1⟩ := and2 h
      obtain ⟨q1, _, _⟩ := slotC_ok F h1
      obtain ⟨r1, _, _⟩ := slotC_ok F h2
      have h4' : parC X.env.scope x y px py a b = true := by rw [F.sc]; exact h4
      have lx : X.env.scope.names.lookup x = some .local ∧ X.env.scope.names.lookup y = some .local := by
        unfold parC at h4'
        simp only [Bool.and_eq_true] at h4'
        exact ⟨locC_ok h4'.1.1.1.1.1.1.1, locC_ok h4'.1.1.1.1.1.1.2⟩
      exact m_par (F.calm (by simpa using hh)) (by rw [F.N]; exact F.nd) q1 r1 (by simpa using h3) lx.1 lx.2 (chkL_ok es F C T U h5).pa (par_sw F.kind h4') rfl
    · cases h
  | .ixSet o i e, X, Γ, W, st, F, C, T, P, U, h => by
    unfold chkS at h
    unfold usesS at U
    split at h
    · rename_i x y ps v pos
      obtain ⟨h, h5⟩ := and2 h
      obtain ⟨h, h4⟩ := and2 h
      obtain ⟨h, h3⟩ := and2 h
      obtain ⟨h1, h2⟩ := and2 h
      refine m_ixSet (by have := hu_of' C; omega) ((chkE_ok o F C T U.left).1 h3) ((chkE_ok i F C T U.right.left).1 h4) ((chkE_ok e F C T U.right.right).1 h5) (assign_ix h1) (noLc_ok (env := X.env) h2 (some (.Subscript x y ps)) pos.line) rfl rfl
    · cases h
  | .fldSet _ _ _, X, Γ, W, st, F, C, T, P, U, h => by simp [chkS] at h
  | .ret e, X, Γ, W, st, F, C, T, P, U, h => by
    unfold chkS at h
    unfold usesS at U
    split at h
    · exact m_ret ((chkE_ok e F C T U).1 h)
    · split at h
      · exact m_retN
      · cases h
    · cases h
  | .ite c a b, X, Γ, W, st, F, C, T, P, U, h => by
    unfold chkS at h
    unfold usesS at U
    split at h
    · obtain ⟨h, h3⟩ := and2 h
      obtain ⟨h1, h2⟩ := and2 h
      exact m_iteS ((chkE_ok c F C T U.left).2 h1).1 (chkSL_ok a F C T P U.right.left h2) (chkSL_ok b F C T P U.right.right h3)
    · cases h
  | .for_ tg src body kl, X, Γ, W, st, F, C, T, P, U, h => by
    unfold chkS at h
    unfold usesS at U
    split at h
    · obtain ⟨h, h4⟩ := and2 h
      obtain ⟨h, h3⟩ := and2 h
      obtain ⟨h, hu⟩ := and2 h
      obtain ⟨h, h2⟩ := and2 h
      obtain ⟨hh, h1⟩ := and2 h
      have cm := F.calm (by simpa using hh)
      exact m_for P.ps cm (chkI_ok src F C T U.left hu h3) (tgC_ok F cm h1) (chkSL_ok body F C T P U.right h4) (noSet_ok h2)
    · cases h
  | .while_ c body kl, X, Γ, W, st, F, C, T, P, U, h => by
    unfold chkS at h
    unfold usesS at U
    split at h
    · obtain ⟨h1, h2⟩ := and2 h
      exact m_while P.ps ((chkE_ok c F C T U.left).2 h1).1 (chkSL_ok body F C T P U.right h2)
    · cases h
  | .raise c es, X, Γ, W, st, F, C, T, P, U, h => by
    unfold chkS at h
    unfold usesS at U
    split at h
    · rename_i f as pos pos'
      obtain ⟨h, h3⟩ := and2 h
      obtain ⟨h1, h2⟩ := and2 h
      obtain ⟨p, rfl, g, db⟩ := nameIs_ok F h2
      obtain ⟨j, hj, z⟩ : ∃ j, j + 1 ≤ k ∧ RzOk X.prog X.w X.K X.mg X.base j c := U (.rz c) (by simp)
      have ht : Γ.hot = false := by simpa using h1
      have cm := F.calm ht
      have room : Room (j + 1) X.A := by
        have r := C.room
        rw [ht] at r
        exact (r.mono hj).room
      split at h3
      · rename_i he
        unfold rz0 at h3
        split at h3
        · exact m_raise0 cm T z he g db
        · cases h3
      · rename_i he
        obtain ⟨h6, h5⟩ := and2 h3
        obtain ⟨h7, h4⟩ := and2 h6
        have q := chkL_ok (W := W) (l := l) es F C T (fun u hu => U u (by simp [hu])) h5
        cases q with
        | nil => simp at h4
        | @cons a as e es n pe t =>
          have h2' : as.all nst = true := by
            have : nst a = true ∧ as.all nst = true := by simpa using h7
            exact this.2
          exact m_raise1 cm T z he room g db (PAs.cons n pe t).pa (star1 n) (stars h2')
    · cases h
  | .try_ body hs, X, Γ, W, st, F, C, T, P, U, h => by
    unfold chkS at h
    unfold usesS at U
    split at h
    · obtain ⟨h, h3⟩ := and2 h
      obtain ⟨h1, h2⟩ := and2 h
      refine m_try P.hs P.hf P.hex (by rw [F.N]; exact F.nd) T (fun Wb pn xe tk ps => ?_) (chkH_ok hs F C P U.right h3)
      exact chkSL_ok body (X := X.tr pn xe) ⟨F.N, F.sc, F.fn, F.nd, F.calm, F.kind, F.top⟩ ⟨C.room, C.gu, C.free⟩ tk ⟨ps, P.hs, P.hf, P.hex⟩ U.left h2
    · cases h
  | .pass, X, Γ, W, st, F, C, T, P, U, h => by
    unfold chkS at h
    split at h
    · exact m_pass
    · exact m_docS
    · cases h
  | .kill _, X, Γ, W, st, F, C, T, P, U, h => by simp [chkS] at h
  | .never, X, Γ, W, st, F, C, T, P, U, h => m_never
theorem chkSL_ok : ∀ (ss : SL) {X : Cx} {Γ : Ce} {W : WX} {sts : List Stmt}, Fit X Γ → Cxt X Γ.hot k → Takes X W → StOk X → Uses X k (usesSL Γ.hot ss) → chkSL Γ ss sts = true → PSs X sts (tML X W l ss)
  | .nil, X, Γ, W, sts, F, C, T, P, U, h => by
    unfold chkSL at h
    cases sts with
    | nil => exact m_nilS
    | cons _ _ => cases h
  | .cons s ss, X, Γ, W, sts, F, C, T, P, U, h => by
    unfold chkSL at h
    unfold usesSL at U
    split at h
    · exact m_killS (chkSL_ok ss F C T P U.right h)
    · split at h
      · obtain ⟨h1, h2⟩ := and2 h
        exact m_consS (chkS_ok s F C T P U.left h1) (chkSL_ok ss F C T P U.right h2)
      · cases h
theorem chkH_ok : ∀ (hs : HL) {X : Cx} {Γ : Ce} {hds : List ExceptHandler}, Fit X Γ → Cxt X Γ.hot k → StOk X → Uses X k (usesH hs) → chkH Γ hs hds = true → HdsM X l hds hs
  | .nil, X, Γ, hds, F, C, P, U, h => by
    unfold chkH at h
    cases hds with
    | nil => exact .nil
    | cons _ _ => cases h
  | .cons c i ss hs, X, Γ, hds, F, C, P, U, h => by
    unfold chkH at h
    unfold usesH at U
    split at h
    · obtain ⟨h, h4⟩ := and2 h
      obtain ⟨h, h3⟩ := and2 h
      obtain ⟨h1, h2⟩ := and2 h
      obtain ⟨p, rfl, g, db⟩ := nameIs_ok F h1
      obtain ⟨D, x, hm⟩ : ∃ D, ExAt X.K c D ∧ X.mg (Str.ofString c) = some (.ref D) := U (.cls c) (by simp)
      have U1 : Uses X k (usesSL true ss) := fun u hu => U u (by simp [hu])
      have U2 : Uses X k (usesH hs) := fun u hu => U u (by simp [hu])
      have suite := fun a : Addr => chkSL_ok ss (X := hotX X a) (Γ := { Γ with hot := true }) (W := WF) ⟨F.N, F.sc, F.fn, F.nd, (fun z => by cases z), F.kind, F.top⟩ ⟨C.room.hot _, C.gu, C.free⟩ (fun u s' ⟨_, _, _, _, _, _, _, _, _, _, _, _, _, _, _, _, w⟩ => w.elim) ⟨PassesOwn.never, P.hs, P.hf, P.hex⟩ U1 h3
      have rest := chkH_ok hs F C P U2 h4
      have nm : Names X (Str.ofString c) (.ref D) := ⟨g, db, .inl hm⟩
      split at h2
      · exact .one x nm suite rest
      · obtain ⟨q1, q2⟩ := and2 h2
        exact .as x nm (by rw [F.N]; exact of_decide_eq_true q1) (by show X.env.scope.names.lookup _ = _; rw [F.sc]; exact locC_ok q2) suite rest
      · cases h2
    · cases h
end
end
end Mp

set_option maxRecDepth 100000
/-! Mp5: defs by their checks; a law's end. -/
namespace Mp
open PySem PySem.Spec PyProof.Rows L2

/-- a def's names -/
def scC (N ps : List Str) (sc : Scope) : Bool :=
  decide (sc.kind = .function) && !sc.isCoroutine && !sc.isGenerator && decide N.Nodup && decide (N.take ps.length = ps) && (ps.all fun x => locC sc x || celC sc x) && (sc.names.all fun y => decide (y.2 ≠ .free))
theorem scC_ok {N ps : List Str} {sc : Scope} (h : scC N ps sc = true) : FnScope N ps sc := by
  unfold scC at h
  simp only [Bool.and_eq_true, decide_eq_true_eq, Bool.not_eq_true', List.all_eq_true, Bool.or_eq_true] at h
  obtain ⟨⟨⟨⟨⟨⟨h1, h2⟩, h3⟩, h4⟩, h5⟩, h6⟩, h7⟩ := h
  exact ⟨h1, h2, h3, h4, h5, fun x hx => (h6 x hx).imp locC_ok celC_ok, h7⟩
/-- a def's text is its term's -/
def defC (t : Bool) (st : Stmt) (N ps : List Str) (f : Fn) : Bool :=
  scC N ps (defScope st) && decide (N.length = f.ns) && decide (ps.length = f.np) && chkSL ⟨N, defScope st, fun _ => true, t, true⟩ f.body (defBody st)
section
variable {P : Program} {w : World} {K : PySem.W.Frag} {mg : Str → Option Value} {base : Heap} {t : Bool} {k : Nat}
theorem def_ok {x qual : Str} {st : Stmt} {a : Addr} {fd : FuncData} {N ps : List Str} {f : Fn} (F : Fun K x qual st a fd) (h : defC t st N ps f = true) (fr : ∀ x ∈ bltNames, mg (Str.ofString x) = none) (us : ∀ u ∈ usesSL t f.body, UseOk P w K mg base k u) : FnG P w K mg base t (k + 1) a fd ps f := by
  obtain ⟨np, ns, keep, sb⟩ := f
  unfold defC at h
  simp only [Bool.and_eq_true, decide_eq_true_eq] at h
  obtain ⟨⟨⟨h1, h2⟩, h3⟩, h4⟩ := h
  have S := scC_ok h1
  refine fnG_of F S h2 h3 fun l cdv A outer s H E room gu => ?_
  exact chkSL_ok (k := k) (l := l) sb (Γ := ⟨N, defScope st, fun _ => true, t, true⟩) ⟨rfl, rfl, rfl, S.nd, (fun e => by show (!t) = true; have e : t = false := e; rw [e]; rfl), S.kind, fun _ => ⟨rfl, rfl⟩⟩ ⟨room, gu, fr⟩ (takes_of rfl rfl rfl rfl) ⟨passes_of rfl, rfl, rfl, rfl⟩ us h4
/-- .. as a name's value -/
theorem call_ok {x : String} {st : Stmt} {a : Addr} {fd : FuncData} {N ps : List Str} {f : Fn} (F : Fun K (Str.ofString x) (Str.ofString x) st a fd) (hm : mg (Str.ofString x) = some (.ref a)) (bd : Binds K fd ps []) (h : defC t st N ps f = true)
    (fr : ∀ x ∈ bltNames, mg (Str.ofString x) = none) (us : ∀ u ∈ usesSL t f.body, UseOk P w K mg base k u) : CallOk P w K mg base t (k + 1) x f := ⟨⟨a, fd, ps, hm, F.kp, bd, def_ok F h fr us⟩⟩
theorem CallOk.mono {j : Nat} {x : String} {f : Fn} (c : CallOk P w K mg base t j x f) (h : j ≤ k) : CallOk P w K mg base t k x f := by
  obtain ⟨a, fd, ps, h1, h2, h3, g⟩ := c.ex
  exact ⟨⟨a, fd, ps, h1, h2, h3, g.mono h⟩⟩
end

/-- the law's def says True of every script of its size -/
def Keeps (n : Nat) (f : Fn) : Prop := ∀ ns : List Int, ns.length ≤ n → ∃ h, callF [] f [.scr ns] [] = .ok (.bl true) h
/-- what the machine is to show of a law's call -/
abbrev Said (s₁ : Shared) : Result → Shared → Prop := fun r s' => r = .ok (.ret (.bool true)) ∧ OldK s₁.heap s'.heap ∧ s'.os = s₁.os ∧ AllBare s'.gens
section
variable {P : Program} {w : World} {K : PySem.W.Frag} {mg mb : Str → Option Value} {k n : Nat} {fa a : Addr} {fd : FuncData} {x : Str} {f : Fn} {s₁ : Shared} {vs : List Value} {ns : List Int}
/-- from a heap that tracks the script at most -/
theorem law_from (H : Hp) (only : Only H) (sc : Sc K H a (ns.map V.int)) (hok : HOk P w H s₁.heap) (alone : ∀ b, H b ≠ none → b = a) (notK : H a ≠ none → K.lookup a = none)
    (KX : K.In s₁.heap) (hns : s₁.heap.Ns mainGlobals mg) (hb : s₁.heap.Ns builtinsNs mb) (hbb : ∀ x : Str, x ≠ "__name__" → mb x = bootBuiltins x) (hlim : s₁.heap.NoLimit) (hg : s₁.gens = #[])
    (ha : s₁.heap.get? a = some { cls := .type "list", data := .seq vs.toArray }) (room : Room k callerA) (G : ∀ base : Heap, K.In base → base.Ns mainGlobals mg → FnG P w K mg base false k fa fd [x] f)
    (bd : ∀ (s : Shared) (u : Value), BindsTo s fd ⟨[u], []⟩ [(x, u)]) (law : ∃ h, callF [] f [.scr ns] [] = .ok (.bl true) h) : codeAny (model P w) callerA (.call (.ref fa) ⟨[.ref a], []⟩) (Said s₁) s₁ := by
  have stays : ∀ {b : Addr} {o : Obj}, s₁.heap.get? b = some o → H b = none → (hidT s₁.heap H).get? b = some o := fun e nb => hidT_get e nb
  have isA : ∀ {b : Addr}, H b ≠ none → b = a := fun {b} q => alone b q
  have dict : ∀ {b : Addr} {o : Obj} {es : Array DictEntry} {ep : Nat}, s₁.heap.get? b = some o → o.data = .dict es ep → H b = none := by
    intro b o es ep e d
    by_cases q : H b = none
    · exact q
    · obtain rfl := isA q
      rw [ha] at e
      cases e
      cases d
  have nsT : ∀ {b : Addr} {m : Str → Option Value}, s₁.heap.Ns b m → (hidT s₁.heap H).Ns b m := by
    rintro b m ⟨o, es, ep, e, d, r⟩
    exact ⟨o, es, ep, stays e (dict e d), d, r⟩
  have kT : K.In (hidT s₁.heap H) := by
    intro b o e
    refine stays (KX b o e) ?_
    by_cases q : H b = none
    · exact q
    · obtain rfl := isA q
      rw [notK q] at e
      cases e
  obtain ⟨mc, c1, c2⟩ := hlim
  have e0 : Env0 P w K mg (hidT s₁.heap H) callerA [] s₁ H :=
    { frames := rfl, mod := ⟨kT, nsT hns, ⟨mb, nsT hb, hbb⟩, ⟨mc, nsT c1, c2⟩⟩, bs := fun b o e => of_hidT e, bsz := Nat.le_of_eq (hidT_size _ _), funs := trivial, frf := (fun b q => nomatch q), hok := hok, bare := .of_eq hg }
  obtain ⟨hz, ez⟩ := law
  have sp : spM K mg [] f [.ref a] H (fun v _ => v = .bl true) (fun _ _ _ => False) := by
    refine ⟨[], fun _ => False, [], [.scr ns], .cons (.scr sc) .nil, ⟨rfl, List.nodup_nil, (fun _ q => nomatch q), (fun _ _ _ q => by simp at q), (fun _ q => nomatch q), (fun _ q => nomatch q), fun _ q => q.elim⟩, ?_⟩
    rw [ez]
    intro φ' χ' H' _ _ v rv
    cases rv
    rfl
  refine codeAny_mono ((G _ kT (nsT hns)).go [] callerA [] s₁ H ⟨[.ref a], []⟩ [.ref a] [.ref a] _ _ (rm_of room) rfl e0 (bd s₁ (.ref a)) (.cons rfl .nil) sp) fun r s' out => ?_
  cases r with
  | error e => obtain ⟨_, _, _, _, _, _, _, _, _, _, _, _, no⟩ := out; exact no.elim
  | ok fl =>
    cases fl with
    | next => exact out.elim
    | brk => exact out.elim
    | cont => exact out.elim
    | ret u =>
      obtain ⟨v, H', os, bare, un, hok', ru, q⟩ := out
      obtain rfl : v = .bl true := q
      obtain rfl : u = Value.bool true := ru
      refine ⟨rfl, .of_keep fun b o e => ?_, os, bare⟩
      rcases only b with z | ⟨ob, xs, z⟩
      · exact un.keep b o e z (by simp [frs]) (by simp)
      · obtain ⟨e1, _⟩ := hok b _ z
        obtain ⟨e2, _⟩ := hok' b _ (un.frzs b ob _ z)
        rw [e] at e1
        cases e1
        exact e2
theorem law_run (KX : K.In s₁.heap) (hns : s₁.heap.Ns mainGlobals mg) (hb : s₁.heap.Ns builtinsNs mb) (hbb : ∀ x : Str, x ≠ "__name__" → mb x = bootBuiltins x) (hlim : s₁.heap.NoLimit) (hg : s₁.gens = #[])
    (ha : s₁.heap.get? a = some { cls := .type "list", data := .seq vs.toArray }) (hi : IntsAre vs ns) (hl : ns.length ≤ sizeLine) (room : Room k callerA) (G : ∀ base : Heap, K.In base → base.Ns mainGlobals mg → FnG P w K mg base false k fa fd [x] f)
    (bd : ∀ (s : Shared) (u : Value), BindsTo s fd ⟨[u], []⟩ [(x, u)]) (law : ∃ h, callF [] f [.scr ns] [] = .ok (.bl true) h) : codeAny (model P w) callerA (.call (.ref fa) ⟨[.ref a], []⟩) (Said s₁) s₁ := by
  have rv := vals_ints hi
  cases hk : K.lookup a with
  | some o =>
    have e := KX a o hk
    rw [ha] at e
    cases e
    refine law_from (fun _ => none) (fun _ => .inl rfl) (.inr ⟨_, vs.toArray, _, hk, rfl, rfl, rfl, ?_, by simpa using rv⟩) (fun b u z => by cases z) (fun b z => absurd rfl z) (fun z => absurd rfl z) KX hns hb hbb hlim hg ha room G bd law
    rw [List.size_toArray, hi.length]; exact hl
  | none =>
    let H : Hp := fun b => if b = a then some (.frz { cls := .type "list", data := .seq vs.toArray } (.lst (ns.map V.int))) else none
    have at_a : H a = some (.frz { cls := .type "list", data := .seq vs.toArray } (.lst (ns.map V.int))) := if_pos rfl
    have off : ∀ {b}, b ≠ a → H b = none := fun h => if_neg h
    have is_a : ∀ {b}, H b ≠ none → b = a := fun {b} q => by
      by_cases e : b = a
      · exact e
      · exact absurd (off e) q
    refine law_from H (fun b => ?_) (.inl ⟨_, at_a⟩) (fun b u z => ?_) (fun b => is_a) (fun _ => hk) KX hns hb hbb hlim hg ha room G bd law
    · by_cases e : b = a
      · rw [e]; exact .inr ⟨_, _, at_a⟩
      · exact .inl (off e)
    · have e : b = a := is_a (by rw [z]; simp)
      subst e
      rw [at_a] at z
      cases z
      exact ⟨ha, by rw [List.length_map]; exact hl, vs, _, rv, ha⟩
/-- the goal behind k_head, from the law's term -/
theorem walk_law {l : PySem.W.OpenLaw} {q : Program} {loose : List Str} {XP : (Str → Option Value) → Heap → Prop} {YP : World → Heap → Prop} {d : DefRec} {K : Params → PySem.W.Frag}
    (hn : l.most = some n) (hn2 : n ≤ sizeLine) (hdf : d.params.defaults = []) (room : Room k callerA) (hY : ∀ (w : World) (h : Heap), YP w h → (K w.params).In h) (law : Keeps n f)
    (G : ∀ (w : World) (mg : Str → Option Value) (fa : Addr) (h : Heap), (K w.params).In h → h.Ns mainGlobals mg → mg d.name = some (.ref fa) →
      ∃ fd : FuncData, (∀ (s : Shared) (u : Value), BindsTo s fd ⟨[u], []⟩ [(x, u)]) ∧ ∀ base : Heap, (K w.params).In base → base.Ns mainGlobals mg → FnG l.prog w (K w.params) mg base false k fa fd [x] f) :
    PySem.W.WalkO q loose XP YP l.row.toRowW d [] (fun f vs => PySem.call f vs) := by
  refine Att.attach_call hn hdf fun w s₀ s₁ mg mb fa o pm cd doc a vs ns top Y ho hd hcd hmg hobj hints hlen hg => ?_
  obtain ⟨fd, bd, go⟩ := G w mg fa _ (hY w _ Y) top.T.g hmg
  exact law_run (hY w _ Y) top.T.g top.T.b top.T.builtins top.T.nolimit hg hobj hints (Nat.le_trans hlen hn2) room go bd (law ns hlen)
end
/-- a def as it stands behind the top, by what the written part says -/
structure Dfn (K : PySem.W.Frag) (x : String) (st : Stmt) (ps : List Str) : Prop where
  ex : ∃ (a : Addr) (fd : FuncData), PySem.W.nsIn K mainGlobals (Str.ofString x) = some (some (.ref a)) ∧ Fun K (Str.ofString x) (Str.ofString x) st a fd ∧ ∀ us : List Value, us.length = ps.length → bindArgs fd ⟨us, []⟩ = pure (ps.zip us)
theorem dfn_mk {K : PySem.W.Frag} {x : String} {st : Stmt} {ps : List Str} {f : Addr} {oc : Value} {od an : Option Addr} {osl : Array (Option Value)} {kV doc pm cdv ct : Value} (g : PySem.W.nsIn K mainGlobals (Str.ofString x) = some (some (.ref f)))
    (l : K.lookup f = some ⟨oc, od, .func (PySem.W.fnOf (Str.ofString x) (Str.ofString x) (defArgs st) (defBody st) (defScope st) .none kV doc pm an cdv ct), osl⟩) (c : PySem.W.codeIn K cdv (Str.ofString x) = true) (k : PySem.W.keepIn K (.ref f) = true)
    (b : ∀ (kV doc pm : Value) (an : Option Addr) (cdv ct : Value) (us : List Value), us.length = ps.length → bindArgs (PySem.W.fnOf (Str.ofString x) (Str.ofString x) (defArgs st) (defBody st) (defScope st) .none kV doc pm an cdv ct) ⟨us, []⟩ = pure (ps.zip us)) : Dfn K x st ps :=
  ⟨⟨f, _, g, fun_mk l c k, b kV doc pm an cdv ct⟩⟩
section
variable {P : Program} {w : World} {K : PySem.W.Frag} {mg : Str → Option Value} {base h : Heap} {t : Bool} {k : Nat} {x : String} {st : Stmt} {N ps : List Str} {f : Fn}
theorem Dfn.call (d : Dfn K x st ps) (X : K.In h) (G : h.Ns mainGlobals mg) (c : defC t st N ps f = true) (fr : ∀ x ∈ bltNames, PySem.W.nsIn K mainGlobals (Str.ofString x) = some none) (us : ∀ u ∈ usesSL t f.body, UseOk P w K mg base k u) : CallOk P w K mg base t (k + 1) x f := by
  obtain ⟨a, fd, g, F, b⟩ := d.ex
  exact call_ok F (PySem.W.mg_of X G g) (.all b) c (fun x hx => PySem.W.mg_none_of X G (fr x hx)) us
theorem law_go {y : Str} {fa : Addr} (d : Dfn K x st [y]) (X : K.In h) (G : h.Ns mainGlobals mg) (hfa : mg (Str.ofString x) = some (.ref fa)) (c : defC false st N [y] f = true) (fr : ∀ x ∈ bltNames, PySem.W.nsIn K mainGlobals (Str.ofString x) = some none)
    (us : ∀ base : Heap, K.In base → base.Ns mainGlobals mg → ∀ u ∈ usesSL false f.body, UseOk P w K mg base k u) :
    ∃ fd : FuncData, (∀ (s : Shared) (u : Value), BindsTo s fd ⟨[u], []⟩ [(y, u)]) ∧ ∀ base : Heap, K.In base → base.Ns mainGlobals mg → FnG P w K mg base false (k + 1) fa fd [y] f := by
  obtain ⟨a, fd, g, F, b⟩ := d.ex
  have e := hfa.symm.trans (PySem.W.mg_of X G g)
  cases e
  refine ⟨fd, fun s u => .of_eq (b [u] rfl), fun base hb gb => def_ok F c (fun x hx => PySem.W.mg_none_of X G (fr x hx)) (us base hb gb)⟩
end
/-! ### the refusals' classes, by what the written part says -/
section
variable {K : PySem.W.Frag} {c : String} {C CP N N' : Addr} {q q' : Str} {bs bs' : List Value} {sn sn' : List Str} {sub sub' : List Value} {ab ab' : Bool} {col col' : Option Bool} {dd dd' : Option Addr} {k0 k1 k2 k3 k5 m0 m1 m2 m3 m5 : Option Value}
theorem pace_mk (a : PySem.W.nsIn K mainGlobals (Str.ofString "PaceError") = some (some (.ref CP))) (l : K.lookup CP = some (excClassObj (Str.ofString "PaceError") q CP N bs PySem.HandSPX.veTail true sn sub ab col dd k0 k1 k2 k3 k5 "ValueError.__new__"))
    (kp : PySem.W.keepIn K (.ref CP) = true) (sa : PySem.W.findIn K (.ref CP) "__setattr__" = some (some (.builtin "object.__setattr__"))) (ga : PySem.W.findIn K (.ref CP) "__getattribute__" = some (some (.builtin "BaseException.__getattribute__")))
    (gg : PySem.W.findIn K (.ref CP) "__getattr__" = some none) (ha : PySem.W.findIn K (.ref CP) "__class__" = some (some (.builtin "object.__class__"))) (hn : PySem.W.specialIn K (.builtin "object.__class__") "__get__" = some (some (.builtin "getset_descriptor.__get__"))) (ht : PySem.W.takesIn K (.builtin "object.__class__") = some true) : ExAt K "PaceError" CP :=
  ⟨a, ⟨_, _, _, _, _, _, _, _, _, _, _, _, _, _, l, .inl ⟨rfl, rfl⟩⟩, by decide, kp, sa, ga, gg, ha, hn, ht, fun f hf => by simp [excF] at hf⟩
theorem exat_mk (n : c ≠ "PaceError") (nb : (above.contains c && c != "PaceError") = false) (aP : PySem.W.nsIn K mainGlobals (Str.ofString "PaceError") = some (some (.ref CP))) (lP : K.lookup CP = some (excClassObj (Str.ofString "PaceError") q' CP N' bs' PySem.HandSPX.veTail true sn' sub' ab' col' dd' m0 m1 m2 m3 m5 "ValueError.__new__"))
    (a : PySem.W.nsIn K mainGlobals (Str.ofString c) = some (some (.ref C))) (l : K.lookup C = some (excClassObj (Str.ofString c) q C N bs (.ref CP :: PySem.HandSPX.veTail) true sn sub ab col dd k0 k1 k2 k3 k5 "ValueError.__new__"))
    (kp : PySem.W.keepIn K (.ref C) = true) (sa : PySem.W.findIn K (.ref C) "__setattr__" = some (some (.builtin "object.__setattr__"))) (ga : PySem.W.findIn K (.ref C) "__getattribute__" = some (some (.builtin "BaseException.__getattribute__")))
    (gg : PySem.W.findIn K (.ref C) "__getattr__" = some none) (ha : PySem.W.findIn K (.ref C) "__class__" = some (some (.builtin "object.__class__"))) (hn : PySem.W.specialIn K (.builtin "object.__class__") "__get__" = some (some (.builtin "getset_descriptor.__get__"))) (ht : PySem.W.takesIn K (.builtin "object.__class__") = some true)
    (nf : ∀ f ∈ excF c, PySem.W.findIn K (.ref C) (Str.ofString f) = some none) : ExAt K c C :=
  ⟨a, ⟨_, _, _, _, _, _, _, _, _, _, _, _, _, _, l, .inr ⟨n, CP, ⟨aP, _, by unfold PySem.W.clsIn; rw [lP], rfl⟩, rfl⟩⟩, nb, kp, sa, ga, gg, ha, hn, ht, nf⟩
/-- a refusal's __init__, as it is found -/
structure InitAt (K : PySem.W.Frag) (c : String) (st : Stmt) : Prop where
  ex : ∃ (C CP f : Addr) (fd : FuncData) (qual : Str), ClsAt K c C ∧ PySem.W.findIn K (.ref C) "__init__" = some (some (.ref f)) ∧ PySem.W.typeIn K (.ref f) = some (.type "function") ∧ Fun K "__init__" qual st f fd ∧
    (∀ us : List Value, us.length = (selfS :: (excF c).map Str.ofString).length → bindArgs fd ⟨us, []⟩ = pure ((selfS :: (excF c).map Str.ofString).zip us)) ∧
    ClsAt K "PaceError" CP ∧ PySem.W.readsIn K CP (.type "type") = true ∧ PySem.W.specialIn K (.ref CP) "__getattribute__" = some (some (.builtin "type.__getattribute__")) ∧ PySem.W.findCls K (.ref CP) (.type "type") "__init__" = some (.val (.builtin "ValueError.__init__"))
theorem init_mk {st : Stmt} {f : Addr} {qual : Str} {oc : Value} {od an : Option Addr} {osl : Array (Option Value)} {kV doc pm cdv ct : Value} (a : PySem.W.nsIn K mainGlobals (Str.ofString c) = some (some (.ref C))) (g : PySem.W.findIn K (.ref C) "__init__" = some (some (.ref f))) (t : PySem.W.typeIn K (.ref f) = some (.type "function"))
    (l : K.lookup f = some ⟨oc, od, .func (PySem.W.fnOf "__init__" qual (defArgs st) (defBody st) (defScope st) .none kV doc pm an cdv ct), osl⟩) (cd : PySem.W.codeIn K cdv qual = true) (kp : PySem.W.keepIn K (.ref f) = true)
    (b : ∀ (kV doc pm : Value) (an : Option Addr) (cdv ct : Value) (us : List Value), us.length = (selfS :: (excF c).map Str.ofString).length → bindArgs (PySem.W.fnOf "__init__" qual (defArgs st) (defBody st) (defScope st) .none kV doc pm an cdv ct) ⟨us, []⟩ = pure ((selfS :: (excF c).map Str.ofString).zip us))
    (aP : PySem.W.nsIn K mainGlobals (Str.ofString "PaceError") = some (some (.ref CP))) (rP : PySem.W.readsIn K CP (.type "type") = true) (sP : PySem.W.specialIn K (.ref CP) "__getattribute__" = some (some (.builtin "type.__getattribute__"))) (fP : PySem.W.findCls K (.ref CP) (.type "type") "__init__" = some (.val (.builtin "ValueError.__init__"))) : InitAt K c st :=
  ⟨⟨C, CP, f, _, qual, a, g, t, fun_mk l cd kp, b kV doc pm an cdv ct, aP, rP, sP, fP⟩⟩
/-- the method of that name in a class's text -/
def clsMeth : Stmt → Str → Stmt
  | .ClassDef _ _ _ body .., x => (body.find? fun s => match s with
    | .FunctionDef n .. => n == x
    | _ => false).getD (.Pass ⟨0, 0, 0, 0⟩)
  | _, _ => .Pass ⟨0, 0, 0, 0⟩
variable {P : Program} {w : World} {mg : Str → Option Value} {base h : Heap} {k : Nat}
theorem use_cls (X : K.In h) (G : h.Ns mainGlobals mg) (x : ∃ C, ExAt K c C) : UseOk P w K mg base k (.cls c) := by
  obtain ⟨C, x⟩ := x
  exact ⟨C, x, PySem.W.mg_of X G x.at_⟩
theorem use_rz0 (X : K.In h) (G : h.Ns mainGlobals mg) (n : c ≠ "PaceError") (e : excF c = []) (hk : 2 ≤ k) (x : ∃ C, ExAt K c C ∧ PySem.W.excIn K C PySem.HandSPX.veTail "ValueError.__new__" = true) : UseOk P w K mg base k (.rz c) := by
  obtain ⟨C, x, q⟩ := x
  exact ⟨1, hk, ⟨C, x, n, PySem.W.mg_of X G x.at_, .inl ⟨e, q⟩⟩⟩
theorem use_rz1 {st : Stmt} (X : K.In h) (G : h.Ns mainGlobals mg) (n : c ≠ "PaceError") (e : excF c ≠ []) (hk : 2 ≤ k) (x : ∃ C, ExAt K c C) (i : InitAt K c st) (hs : initScC (excF c) (defScope st) = true) (hb : initC (excF c) st = true) : UseOk P w K mg base k (.rz c) := by
  obtain ⟨C, x⟩ := x
  obtain ⟨C', CP, f, fd, qual, y, h1, h2, F, b, aP, rP, sP, fP⟩ := i.ex
  obtain rfl := x.at_.eq y
  exact ⟨1, hk, ⟨C, x, n, PySem.W.mg_of X G x.at_, .inr ⟨f, fd, _, e, h1, h2, init_ok (k := 0) F x ⟨⟨CP, PySem.W.mg_of X G aP, rP, sP, fP⟩⟩ hs hb, .all b⟩⟩⟩
/-! ### the module's names of values -/
def flatB : List D → List Value → Bool
  | [], [] => true
  | .int i :: ds, .int j _ :: us => decide (i = j) && flatB ds us
  | .str i :: ds, .str j _ :: us => decide (i = j) && flatB ds us
  | _, _ => false
theorem flatB_ok {φ : List Addr} {χ : Ads} {H : Hp} : ∀ {ds : List D} {us : List Value}, flatB ds us = true → ∃ vs, RVs K φ χ H ds vs ∧ Vals vs us
  | [], [], _ => ⟨[], .nil, .nil⟩
  | .int i :: ds, .int j t :: us, h => by
    unfold flatB at h
    simp only [Bool.and_eq_true, decide_eq_true_eq] at h
    obtain ⟨rfl, h⟩ := h
    obtain ⟨vs, a, b⟩ := flatB_ok (φ := φ) (χ := χ) (H := H) h
    exact ⟨.int i :: vs, .cons (.int i) a, .cons ⟨t, rfl⟩ b⟩
  | .str i :: ds, .str j t :: us, h => by
    unfold flatB at h
    simp only [Bool.and_eq_true, decide_eq_true_eq] at h
    obtain ⟨rfl, h⟩ := h
    obtain ⟨vs, a, b⟩ := flatB_ok (φ := φ) (χ := χ) (H := H) h
    exact ⟨.str i :: vs, .cons (.str i) a, .cons ⟨t, rfl⟩ b⟩
  | [], _ :: _, h => by simp [flatB] at h
  | .int _ :: _, [], h => by simp [flatB] at h
  | .str _ :: _, [], h => by simp [flatB] at h
  | .non :: _, _, h => by simp [flatB] at h
  | .bl _ :: _, _, h => by simp [flatB] at h
  | .tup _ :: _, _, h => by simp [flatB] at h
  | .lst _ :: _, _, h => by simp [flatB] at h
  | .ref _ :: _, _, h => by simp [flatB] at h
  | .scr _ :: _, _, h => by simp [flatB] at h
  | .exc _ _ :: _, _, h => by simp [flatB] at h
  | .fn _ :: _, _, h => by simp [flatB] at h
  | .int _ :: _, .none :: _, h | .int _ :: _, .bool _ :: _, h | .int _ :: _, .str _ _ :: _, h => by simp [flatB] at h
  | .int _ :: _, u :: _, h => by
    cases u <;> simp [flatB] at h
    obtain ⟨rfl, h⟩ := h
    rename_i us i t
    obtain ⟨vs, a, b⟩ := flatB_ok (φ := φ) (χ := χ) (H := H) h
    exact ⟨_ :: vs, .cons (.int _) a, .cons ⟨t, rfl⟩ b⟩
  | .str _ :: _, u :: _, h => by
    cases u <;> simp [flatB] at h
    obtain ⟨rfl, h⟩ := h
    rename_i us i t
    obtain ⟨vs, a, b⟩ := flatB_ok (φ := φ) (χ := χ) (H := H) h
    exact ⟨_ :: vs, .cons (.str _) a, .cons ⟨t, rfl⟩ b⟩
/-- a name of the module with a value -/
structure GlobAt (K : PySem.W.Frag) (x : String) (d : D) : Prop where
  ex : ∃ u v, PySem.W.nsIn K mainGlobals (Str.ofString x) = some (some u) ∧ RelV v u ∧ ∀ φ χ H, RV K φ χ H d v
  nl : ∀ ds, d ≠ .lst ds
theorem globI_mk {x : String} {i : Int} {t : Tok} (a : PySem.W.nsIn K mainGlobals (Str.ofString x) = some (some (.int i t))) : GlobAt K x (.int i) := ⟨⟨_, .int i, a, ⟨t, rfl⟩, fun _ _ _ => .int i⟩, fun _ q => by cases q⟩
theorem globS_mk {x : String} {s : Str} {t : Tok} (a : PySem.W.nsIn K mainGlobals (Str.ofString x) = some (some (.str s t))) : GlobAt K x (.str s) := ⟨⟨_, .str s, a, ⟨t, rfl⟩, fun _ _ _ => .str s⟩, fun _ q => by cases q⟩
theorem globT_mk {x : String} {ds : List D} {A : Addr} {o : Obj} {its : Array Value} {n : Nat} (a : PySem.W.nsIn K mainGlobals (Str.ofString x) = some (some (.ref A))) (l : K.lookup A = some o) (c : o.cls = .type "tuple") (e : o.data = .seq its n) (s : its.size ≤ sizeLine) (f : flatB ds its.toList = true) : GlobAt K x (.tup ds) := by
  obtain ⟨vs, _, v⟩ := flatB_ok (K := K) (φ := []) (χ := fun _ => False) (H := fun _ => none) f
  refine ⟨⟨_, .ref A, a, rfl, fun φ χ H => ?_⟩, fun _ q => by cases q⟩
  obtain ⟨ws, r, v⟩ := flatB_ok (K := K) (φ := φ) (χ := χ) (H := H) f
  exact .tup (.inr ⟨o, its, n, l, c, e, s, v⟩) r
theorem use_glob {x : String} {d : D} (X : K.In h) (G : h.Ns mainGlobals mg) (g : GlobAt K x d) : UseOk P w K mg base k (.glob x d) := by
  obtain ⟨u, v, a, r, q⟩ := g.ex
  exact ⟨⟨u, v, PySem.W.mg_of X G a, r, q⟩, g.nl⟩
end
end Mp

set_option maxRecDepth 100000
/-! Mq0: the evaluator's rows, one by one (printed by eqs.py from Mp1); loops stand closed. -/
namespace Mp
open PySem
noncomputable def whileE (l : List Nat) (c : E) (body : SL) (kill : List Nat) (σ : Sg) (h : Hh) : R Fl := whileL (evE l c) (thenK kill (exL l body)) σ h
noncomputable def forE (l : List Nat) (tg : List Nat) (body : SL) (kill : List Nat) (w : Wt) (ds : List D) (σ : Sg) (h : Hh) : R Fl := forL w (turnK tg kill (exL l body)) ds σ h
noncomputable def compE (l : List Nat) (e : E) (tg : List Nat) (c : E) (w : Wt) (ds : List D) (σ : Sg) (h : Hh) : R (List D) := compL w (itemK tg σ (isNo c) (evE l c) (evE l e)) ds h
section
variable {l : List Nat} {σ : Sg} {h : Hh}
@[simp] theorem evE_no  : evE l (E.no) σ h =
    .ok .non h := by
  conv => lhs; unfold evE
  try rfl
@[simp] theorem evE_var {i : _} : evE l (E.var i) σ h =
    varV σ i h := by
  conv => lhs; unfold evE
  try rfl
@[simp] theorem evE_cst {d : _} : evE l (E.cst d) σ h =
    .ok d h := by
  conv => lhs; unfold evE
  try rfl
@[simp] theorem evE_glob {u1 : _} {d : _} : evE l (E.glob u1 d) σ h =
    .ok d h := by
  conv => lhs; unfold evE
  try rfl
@[simp] theorem evE_bop {o : _} {a : _} {b : _} : evE l (E.bop o a b) σ h =
    (evE l a σ h).bind fun x h => (evE l b σ h).bind fun y h => bop o h x y := by
  conv => lhs; unfold evE
  try rfl
@[simp] theorem evE_neg {a : _} : evE l (E.neg a) σ h =
    (evE l a σ h).bind fun x h => negV h x := by
  conv => lhs; unfold evE
  try rfl
@[simp] theorem evE_not {a : _} : evE l (E.not a) σ h =
    (evE l a σ h).bind (boolV fun b h => .ok (.bl (!b)) h) := by
  conv => lhs; unfold evE
  try rfl
@[simp] theorem evE_and {a : _} {b : _} : evE l (E.and a b) σ h =
    (evE l a σ h).bind (boolV fun x h => if x = true then evE l b σ h else .ok (.bl false) h) := by
  conv => lhs; unfold evE
  try rfl
@[simp] theorem evE_or {a : _} {b : _} : evE l (E.or a b) σ h =
    (evE l a σ h).bind (boolV fun x h => if x = true then .ok (.bl true) h else evE l b σ h) := by
  conv => lhs; unfold evE
  try rfl
@[simp] theorem evE_cmp {o : _} {a : _} {b : _} : evE l (E.cmp o a b) σ h =
    (evE l a σ h).bind fun x h => (evE l b σ h).bind fun y h => cop o h x y := by
  conv => lhs; unfold evE
  try rfl
@[simp] theorem evE_chain {o : _} {p : _} {a : _} {b : _} {c : _} : evE l (E.chain o p a b c) σ h =
    (evE l a σ h).bind fun x h => (evE l b σ h).bind fun y h => (cop o h x y).bind (boolV fun k h =>
      if k = true then (evE l c σ h).bind fun z h => cop p h y z else .ok (.bl false) h) := by
  conv => lhs; unfold evE
  try rfl
@[simp] theorem evE_chain3 {o : _} {p : _} {q : _} {a : _} {b : _} {c : _} {d : _} : evE l (E.chain3 o p q a b c d) σ h =
    (evE l a σ h).bind fun x h => (evE l b σ h).bind fun y h => (cop o h x y).bind (boolV fun k h =>
      if k = true then (evE l c σ h).bind fun z h => (cop p h y z).bind (boolV fun k h => if k = true then (evE l d σ h).bind fun w h => cop q h z w else .ok (.bl false) h) else .ok (.bl false) h) := by
  conv => lhs; unfold evE
  try rfl
@[simp] theorem evE_isN {a : _} : evE l (E.isN a) σ h =
    (evE l a σ h).bind fun x h => .ok (.bl (isNon x)) h := by
  conv => lhs; unfold evE
  try rfl
@[simp] theorem evE_notN {a : _} : evE l (E.notN a) σ h =
    (evE l a σ h).bind fun x h => .ok (.bl (!isNon x)) h := by
  conv => lhs; unfold evE
  try rfl
@[simp] theorem evE_isB {a : _} {b : _} : evE l (E.isB a b) σ h =
    (evE l a σ h).bind fun x h => isBV b h x := by
  conv => lhs; unfold evE
  try rfl
@[simp] theorem evE_notB {a : _} {b : _} : evE l (E.notB a b) σ h =
    (evE l a σ h).bind fun x h => notBV b h x := by
  conv => lhs; unfold evE
  try rfl
@[simp] theorem evE_ite {c : _} {a : _} {b : _} : evE l (E.ite c a b) σ h =
    (evE l c σ h).bind (boolV fun k h => if k = true then evE l a σ h else evE l b σ h) := by
  conv => lhs; unfold evE
  try rfl
@[simp] theorem evE_tup {es : _} : evE l (E.tup es) σ h =
    (evL l es σ h).bind fun ds h => if ds.length ≤ sizeLine then .ok (.tup ds) h else .bad := by
  conv => lhs; unfold evE
  try rfl
@[simp] theorem evE_lst {es : _} : evE l (E.lst es) σ h =
    (evL l es σ h).bind fun ds h => if ds.length ≤ sizeLine then .ok (.lst ds) h else .bad := by
  conv => lhs; unfold evE
  try rfl
@[simp] theorem evE_ix {a : _} {b : _} : evE l (E.ix a b) σ h =
    (evE l a σ h).bind fun x h => (evE l b σ h).bind fun y h => ixV h x y := by
  conv => lhs; unfold evE
  try rfl
@[simp] theorem evE_sl {a : _} {lo : _} {hi : _} : evE l (E.sl a lo hi) σ h =
    (evE l a σ h).bind fun x h => (evE l lo σ h).bind (optV (isNo lo) fun i h => (evE l hi σ h).bind (optV (isNo hi) fun j h => slV h x i j)) := by
  conv => lhs; unfold evE
  try rfl
@[simp] theorem evE_rev {a : _} : evE l (E.rev a) σ h =
    (evE l a σ h).bind fun x h => revV h x := by
  conv => lhs; unfold evE
  try rfl
@[simp] theorem evE_call {u1 : _} {f : _} {es : _} : evE l (E.call u1 f es) σ h =
    (evL l es σ h).bind fun ds h => callF l f ds h := by
  conv => lhs; unfold evE
  try rfl
@[simp] theorem evE_blt {b : _} {es : _} : evE l (E.blt b es) σ h =
    (evL l es σ h).bind fun ds h => blt b h ds := by
  conv => lhs; unfold evE
  try rfl
@[simp] theorem evE_isin {a : _} {ts : _} : evE l (E.isin a ts) σ h =
    (evE l a σ h).bind fun x h => isinV ts h x := by
  conv => lhs; unfold evE
  try rfl
@[simp] theorem evE_comp {e : _} {tg : _} {src : _} {c : _} : evE l (E.comp e tg src c) σ h =
    (evI l src σ h).bind fun xw h => (compE l e tg c xw.2 xw.1 σ h).noEx.bind fun ds h => if ds.length < sizeLine then .ok (.lst ds) h else .bad := by
  conv => lhs; unfold evE
  try rfl
@[simp] theorem evE_compX {e : _} {tg : _} {src : _} : evE l (E.compX e tg src) σ h =
    (evI l src σ h).bind fun xw h => if xw.1.length < sizeLine then (compE l e tg .no xw.2 xw.1 σ h).bind fun ds h => .ok (.lst ds) h else .bad := by
  conv => lhs; unfold evE
  try rfl
@[simp] theorem evE_alloc {e : _} : evE l (E.alloc e) σ h =
    (evE l e σ h).bind fun x h => allocV h x := by
  conv => lhs; unfold evE
  try rfl
@[simp] theorem evE_vals {i : _} {k : _} {j : _} : evE l (E.vals i k j) σ h =
    (varV σ j h).bind fun x h => if i < σ.length then valsV k h x else .bad := by
  conv => lhs; unfold evE
  try rfl
@[simp] theorem evE_pick {ps : _} {a : _} : evE l (E.pick ps a) σ h =
    (evE l a σ h).bind fun x h => pickV ps h x := by
  conv => lhs; unfold evE
  try rfl
@[simp] theorem evE_fld {a : _} {f : _} : evE l (E.fld a f) σ h =
    (evE l a σ h).bind fun x h => fldV f h x := by
  conv => lhs; unfold evE
  try rfl
@[simp] theorem evE_xfld {a : _} {f : _} : evE l (E.xfld a f) σ h =
    (evE l a σ h).bind fun x h => xfldV f h x := by
  conv => lhs; unfold evE
  try rfl
@[simp] theorem evE_meth {c : _} {u1 : _} {f : _} {a : _} {es : _} : evE l (E.meth c u1 f a es) σ h =
    (evE l a σ h).bind fun x h => insV c h ((evL l es σ h).bind fun ds h => callF l f (x :: ds) h) x := by
  conv => lhs; unfold evE
  try rfl
@[simp] theorem evE_make {c : _} {f : _} {es : _} : evE l (E.make c f es) σ h =
    (evL l es σ h).bind fun ds h => (callF l f (.ref h.length :: ds) (h ++ [.ins c []])).bind (madeV h.length) := by
  conv => lhs; unfold evE
  try rfl
@[simp] theorem evE_mkx {c : _} {es : _} : evE l (E.mkx c es) σ h =
    (evL l es σ h).bind fun ds h => if ds.length = (excF c).length then .ok (.exc c ds) h else .bad := by
  conv => lhs; unfold evE
  try rfl
@[simp] theorem evE_bm {m : _} {a : _} {es : _} : evE l (E.bm m a es) σ h =
    (evE l a σ h).bind fun x h => if recv (bmTy m) h x = true then (evL l es σ h).bind fun ds h => bm m l h x ds else .bad := by
  conv => lhs; unfold evE
  try rfl
@[simp] theorem evL_nil  : evL l (EL.nil) σ h =
    .ok [] h := by
  conv => lhs; unfold evL
  try rfl
@[simp] theorem evL_cons {e : _} {es : _} : evL l (EL.cons e es) σ h =
    (evE l e σ h).bind fun x h => (evL l es σ h).bind fun xs h => .ok (x :: xs) h := by
  conv => lhs; unfold evL
  try rfl
@[simp] theorem evI_seq {a : _} : evI l (It.seq a) σ h =
    (evE l a σ h).bind fun x h => someV h (srcOf h x) := by
  conv => lhs; unfold evI
  try rfl
@[simp] theorem evI_rg1 {a : _} : evI l (It.rg1 a) σ h =
    (evE l a σ h).bind fun x h => rgV (.int 0) x h := by
  conv => lhs; unfold evI
  try rfl
@[simp] theorem evI_rg2 {a : _} {b : _} : evI l (It.rg2 a b) σ h =
    (evE l a σ h).bind fun x h => (evE l b σ h).bind fun y h => rgV x y h := by
  conv => lhs; unfold evI
  try rfl
@[simp] theorem evI_enum {a : _} : evI l (It.enum a) σ h =
    (evE l a σ h).bind fun x h => (someV h (srcOf h x)).bind fun xw h => .ok (enumD xw.1, xw.2) h := by
  conv => lhs; unfold evI
  try rfl
@[simp] theorem evI_zip {a : _} {b : _} : evI l (It.zip a b) σ h =
    (evE l a σ h).bind fun x h => (evE l b σ h).bind fun y h => if isTup x = isTup y then (someV h (srcOf h x)).bind fun xw h => (someV h (srcOf h y)).bind fun yw h => .ok (zipD xw.1 yw.1, xw.2 ++ yw.2) h else .bad := by
  conv => lhs; unfold evI
  try rfl
@[simp] theorem exS_ex {e : _} : exS l (S.ex e) σ h =
    stE σ (evE l e σ h) fun _ h => .ok (.nx σ) h := by
  conv => lhs; unfold exS
  try rfl
@[simp] theorem exS_set {i : _} {e : _} : exS l (S.set i e) σ h =
    stE σ (evE l e σ h) fun x h => .ok (.nx (σ.set i (some x))) h := by
  conv => lhs; unfold exS
  try rfl
@[simp] theorem exS_unp {is : _} {e : _} : exS l (S.unp is e) σ h =
    stE σ (evE l e σ h) fun x h => stE σ (unpV is σ h x) fun σ' h => .ok (.nx σ') h := by
  conv => lhs; unfold exS
  try rfl
@[simp] theorem exS_par {i : _} {j : _} {es : _} : exS l (S.par i j es) σ h =
    stE σ (evL l es σ h) fun ds h => parV i j σ h ds := by
  conv => lhs; unfold exS
  try rfl
@[simp] theorem exS_ixSet {o : _} {i : _} {v : _} : exS l (S.ixSet o i v) σ h =
    stE σ (evE l v σ h) fun z h => stE σ (evE l o σ h) fun x h => stE σ (evE l i σ h) fun y h => stE σ (setItem l h x y z) fun _ h => .ok (.nx σ) h := by
  conv => lhs; unfold exS
  try rfl
@[simp] theorem exS_fldSet {o : _} {f : _} {v : _} : exS l (S.fldSet o f v) σ h =
    stE σ (evE l v σ h) fun z h => stE σ (evE l o σ h) fun x h => stE σ (setFld l h x f z) fun _ h => .ok (.nx σ) h := by
  conv => lhs; unfold exS
  try rfl
@[simp] theorem exS_ret {e : _} : exS l (S.ret e) σ h =
    stE σ (evE l e σ h) fun x h => .ok (.rt x) h := by
  conv => lhs; unfold exS
  try rfl
@[simp] theorem exS_ite {c : _} {a : _} {b : _} : exS l (S.ite c a b) σ h =
    stE σ (evE l c σ h) (boolV fun k h => if k = true then exL l a σ h else exL l b σ h) := by
  conv => lhs; unfold exS
  try rfl
@[simp] theorem exS_for {tg : _} {src : _} {body : _} {kill : _} : exS l (S.for_ tg src body kill) σ h =
    stE σ (evI l src σ h) fun xw h => forE l tg body kill xw.2 xw.1 (killAll σ kill) h := by
  conv => lhs; unfold exS
  try rfl
@[simp] theorem exS_while {c : _} {body : _} {kill : _} : exS l (S.while_ c body kill) σ h =
    whileE l c body kill (killAll σ kill) h := by
  conv => lhs; unfold exS
  try rfl
@[simp] theorem exS_raise {c : _} {es : _} : exS l (S.raise c es) σ h =
    stE σ (evL l es σ h) fun ds h => if ds.length = (excF c).length then .ok (.xc c ds σ) h else .bad := by
  conv => lhs; unfold exS
  try rfl
@[simp] theorem exS_try {body : _} {hs : _} : exS l (S.try_ body hs) σ h =
    (exL l body σ h).bind (tryV (exH l hs)) := by
  conv => lhs; unfold exS
  try rfl
@[simp] theorem exS_pass  : exS l (S.pass) σ h =
    .ok (.nx σ) h := by
  conv => lhs; unfold exS
  try rfl
@[simp] theorem exS_kill {is : _} : exS l (S.kill is) σ h =
    .ok (.nx (killAll σ is)) h := by
  conv => lhs; unfold exS
  try rfl
@[simp] theorem exS_never  : exS l (S.never) σ h =
    .bad := by
  conv => lhs; unfold exS
  try rfl
@[simp] theorem exL_nil  : exL l (SL.nil) σ h =
    .ok (.nx σ) h := by
  conv => lhs; unfold exL
  try rfl
@[simp] theorem exL_cons {s : _} {ss : _} : exL l (SL.cons s ss) σ h =
    (exS l s σ h).bind (seqFl fun σ' h' => exL l ss σ' h') := by
  conv => lhs; unfold exL
  try rfl
@[simp] theorem exH_nil {c : String} {fs : List D}  : exH l (HL.nil) c fs σ h =
    .ok (.xc c fs σ) h := by
  conv => lhs; unfold exH
  try rfl
@[simp] theorem exH_cons {c : String} {fs : List D} {c' : _} {i : _} {suite : _} {hs : _} : exH l (HL.cons c' i suite hs) c fs σ h =
    if excSub c c' = true then (exL l suite (asSet i (.exc c fs) σ) h).bind (suiteV i) else exH l hs c fs σ h := by
  conv => lhs; unfold exH
  try rfl
@[simp] theorem callF_mk {ds : List D} {np : _} {ns : _} {keep : _} {body : _} : callF l (Fn.mk np ns keep body) ds h =
    if ds.length = np ∧ np ≤ ns then
      endF keep h.length (exL (if keep then l else h.length :: l) body (ds.map some ++ List.replicate (ns - np) none) h)
    else .bad := by
  conv => lhs; unfold callF
  try rfl
end
end Mp

set_option maxRecDepth 100000
/-! Mq1: words for reckoning with terms; the tape. -/
namespace Mp
open PySem

/-! ### operators, by kinds -/
theorem bop_add (h : Hh) (i j : Int) : bop .add h (.int i) (.int j) = .ok (.int (i + j)) h := rfl
theorem bop_sub (h : Hh) (i j : Int) : bop .sub h (.int i) (.int j) = .ok (.int (i - j)) h := rfl
theorem bop_mod (h : Hh) {i j : Int} (n : j ≠ 0) : bop .mod h (.int i) (.int j) = .ok (.int (i.fmod j)) h := by
  show (if j = 0 then R.bad else R.ok (D.int (i.fmod j)) h) = _
  rw [if_neg n]
theorem bop_mul (h : Hh) {i j : Int} (a : small i = true) (b : small j = true) : bop .mul h (.int i) (.int j) = .ok (.int (i * j)) h := by
  show (if (small i && small j) = true then R.ok (D.int (i * j)) h else .bad) = _
  rw [a, b]; rfl
theorem bop_fdiv (h : Hh) {i j : Int} (n : j ≠ 0) (b : small j = true) : bop .fdiv h (.int i) (.int j) = .ok (.int (i.fdiv j)) h := by
  show (if j = 0 ∨ small j = false then R.bad else R.ok (D.int (i.fdiv j)) h) = _
  rw [if_neg (by simp [n, b])]
theorem eqv_int (i j : Int) : PyData.eqv (.int i) (.int j) = (i == j) := by simp [PyData.eqv]
theorem shaped_int (i : Int) : SeqAt.shaped (.int i) = true := by simp [SeqAt.shaped, PyData.canLay0, PyData.depth]
theorem eqv_bl (i j : Bool) : PyData.eqv (.bool i) (.bool j) = (i == j) := by cases i <;> cases j <;> simp [PyData.eqv]
theorem shaped_bl (i : Bool) : SeqAt.shaped (.bool i) = true := by simp [SeqAt.shaped, PyData.canLay0, PyData.depth]
theorem cop_eq (h : Hh) (i j : Int) : cop .eq h (.int i) (.int j) = .ok (.bl (i == j)) h := by simp [cop, D.py, eqv_int, shaped_int]
theorem cop_ne (h : Hh) (i j : Int) : cop .ne h (.int i) (.int j) = .ok (.bl (!(i == j))) h := by simp [cop, D.py, eqv_int, shaped_int]
theorem cop_eqb (h : Hh) (i j : Bool) : cop .eq h (.bl i) (.bl j) = .ok (.bl (i == j)) h := by simp [cop, D.py, eqv_bl, shaped_bl]
theorem cop_neb (h : Hh) (i j : Bool) : cop .ne h (.bl i) (.bl j) = .ok (.bl (!(i == j))) h := by simp [cop, D.py, eqv_bl, shaped_bl]
theorem cop_lt (h : Hh) (i j : Int) : cop .lt h (.int i) (.int j) = .ok (.bl (decide (i < j))) h := rfl
theorem cop_le (h : Hh) (i j : Int) : cop .le h (.int i) (.int j) = .ok (.bl (decide (i ≤ j))) h := rfl
theorem cop_gt (h : Hh) (i j : Int) : cop .gt h (.int i) (.int j) = .ok (.bl (decide (j < i))) h := rfl
theorem cop_ge (h : Hh) (i j : Int) : cop .ge h (.int i) (.int j) = .ok (.bl (decide (j ≤ i))) h := rfl
theorem blt_abs (h : Hh) (i : Int) : blt .abs h [.int i] = .ok (.int (if i < 0 then -i else i)) h := rfl
theorem blt_lenL (h : Hh) (ds : List D) : blt .len h [.lst ds] = .ok (.int ds.length) h := rfl
theorem blt_lenT (h : Hh) (ds : List D) : blt .len h [.tup ds] = .ok (.int ds.length) h := rfl
theorem sm_of {i : Int} (h : i.natAbs < 2 ^ 9000) : small i = true := decide_eq_true h
theorem sm_lt {i : Int} (h0 : -(2 ^ 64) < i) (h1 : i < 2 ^ 64) : small i = true := by
  refine sm_of (Nat.lt_of_lt_of_le (m := 2 ^ 64) (by omega) (Nat.pow_le_pow_right (by decide) (by decide)))
theorem getL_of {h : Hh} {n : Nat} {ds : List D} (e : getL h n = some ds) : n < h.length := by
  unfold getL at e
  split at e
  · rename_i q; exact (List.getElem?_eq_some_iff.mp q).1
  · cases e
theorem getL_set {h : Hh} {n : Nat} {ds : List D} (hn : n < h.length) : getL (h.set n (.lst ds)) n = some ds := by unfold getL; rw [List.getElem?_set_self hn]
theorem getL_set_ne {h : Hh} {n m : Nat} {o : Ob} (hn : n ≠ m) : getL (h.set n o) m = getL h m := by unfold getL; rw [List.getElem?_set_ne hn]
theorem stOk_int {l : List Nat} {n : Nat} {i : Int} : stOk l n (.int i) = true := by simp [stOk, D.und]
theorem stOk_bl {l : List Nat} {n : Nat} {i : Bool} : stOk l n (.bl i) = true := by simp [stOk, D.und]
theorem setItem_int {l : List Nat} {h : Hh} {n : Nat} {ds : List D} {k : Int} {j : Nat} {i : Int} (g : getL h n = some ds) (e : ixAt ds.length k = some j) : setItem l h (.ref n) (.int k) (.int i) = .ok () (h.set n (.lst (ds.set j (.int i)))) := by
  simp [setItem, g, e, stOk_int]
theorem set_len {h : Hh} {n : Nat} {o : Ob} : (h.set n o).length = h.length := List.length_set
/-- a place in an object of ours -/
theorem ixV_ref {h : Hh} {n : Nat} {ds : List D} {i : Int} {d : D} (g : getL h n = some ds) (e : atD ds i = some d) : ixV h (.ref n) (.int i) = .ok d h := by
  simp [ixV, seqOf, listOf, lstOf, g, e]
theorem ixV_lst {h : Hh} {ds : List D} {i : Int} {d : D} (e : atD ds i = some d) : ixV h (.lst ds) (.int i) = .ok d h := by
  simp [ixV, seqOf, listOf, lstOf, e]
theorem ixV_tup {h : Hh} {ds : List D} {i : Int} {d : D} (e : atD ds i = some d) : ixV h (.tup ds) (.int i) = .ok d h := by
  simp [ixV, seqOf, e]
theorem atD_nat {α : Type} {xs : List α} {i : Nat} (h : i < xs.length) : atD xs (i : Int) = some xs[i] := by
  unfold atD ixAt
  rw [if_pos (by omega), if_pos (by omega)]
  simp [h]
theorem fin_int {b : Nat} {h : Hh} {i : Int} (e : h.length = b) : fin false b (.int i) h = .ok (.int i) h := by
  subst e
  simp [fin, D.und]
theorem fin_bl {b : Nat} {h : Hh} {i : Bool} (e : h.length = b) : fin false b (.bl i) h = .ok (.bl i) h := by
  subst e
  simp [fin, D.und]

theorem set_self {h : Hh} {n : Nat} {ds : List D} (g : getL h n = some ds) : h.set n (.lst ds) = h := by
  refine List.ext_getElem? fun j => ?_
  rw [List.getElem?_set]
  by_cases e : n = j
  · subst e
    have hn := getL_of g
    unfold getL at g
    split at g
    · rename_i q; cases g; rw [if_pos rfl, if_pos hn]; exact q.symm
    · cases g
  · rw [if_neg e]
@[simp] theorem srcOf_lst {h : Hh} {ds : List D} : srcOf h (.lst ds) = some (ds, []) := rfl
@[simp] theorem srcOf_tup {h : Hh} {ds : List D} : srcOf h (.tup ds) = some (ds, []) := rfl
/-! ### loops, turn by turn -/
theorem while_step {c : Sg → Hh → R D} {b : Sg → Hh → R Fl} {σ σ' : Sg} {h h1 h2 : Hh} (hc : c σ h = .ok (.bl true) h1) (hb : b σ h1 = .ok (.nx σ') h2) : whileL c b σ h = whileL c b σ' h2 := by
  rw [whileL_eq, hc]
  simp only
  rw [hb]
theorem while_stop {c : Sg → Hh → R D} {b : Sg → Hh → R Fl} {σ : Sg} {h h1 : Hh} (hc : c σ h = .ok (.bl false) h1) : whileL c b σ h = .ok (.nx σ) h1 := by
  rw [whileL_eq, hc]
theorem watch_nil {h : Hh} : watch [] h := by intro p hp; cases hp
theorem for_nil {f : D → Sg → Hh → R Fl} {σ : Sg} {h : Hh} : forL [] f [] σ h = .ok (.nx σ) h := by simp [forL, ifW, watch_nil]
theorem for_cons {f : D → Sg → Hh → R Fl} {d : D} {ds : List D} {σ σ' : Sg} {h h' : Hh} (e : f d σ h = .ok (.nx σ') h') : forL [] f (d :: ds) σ h = forL [] f ds σ' h' := by simp [forL, ifW, watch_nil, e]
theorem whileE_step {l kill : List Nat} {c : E} {b : SL} {σ σ' : Sg} {h h1 h2 : Hh} (hc : evE l c σ h = .ok (.bl true) h1) (hb : (exL l b σ h1).bind (killV kill) = .ok (.nx σ') h2) : whileE l c b kill σ h = whileE l c b kill σ' h2 := while_step hc hb
theorem whileE_stop {l kill : List Nat} {c : E} {b : SL} {σ : Sg} {h h1 : Hh} (hc : evE l c σ h = .ok (.bl false) h1) : whileE l c b kill σ h = .ok (.nx σ) h1 := while_stop hc
/-- a for over what isn't watched, by what holds between its turns -/
theorem for_all {f : D → Sg → Hh → R Fl} (Pv : List D → Sg → Hh → Prop) : ∀ (ds : List D) (σ : Sg) (h : Hh), Pv ds σ h → (∀ d ds σ h, Pv (d :: ds) σ h → ∃ σ' h', f d σ h = .ok (.nx σ') h' ∧ Pv ds σ' h') → ∃ σ' h', forL [] f ds σ h = .ok (.nx σ') h' ∧ Pv [] σ' h'
  | [], σ, h, p, _ => ⟨σ, h, for_nil, p⟩
  | d :: ds, σ, h, p, k => by
    obtain ⟨σ1, h1, e, p1⟩ := k d ds σ h p
    obtain ⟨σ2, h2, e2, p2⟩ := for_all Pv ds σ1 h1 p1 k
    exact ⟨σ2, h2, by rw [for_cons e, e2], p2⟩

/-! ### the tape -/
def tapeD (xs : List Int) (s : Nat) (f : Int) (p : Nat) : List D := [.lst (xs.map .int), .int s, .int f, .int p]
/-- the tape lies at n, at most k draws made -/
def IsTape (h : Hh) (n k : Nat) : Prop := ∃ xs s f p, getL h n = some (tapeD xs s f p) ∧ 0 ≤ f ∧ s ≤ k
theorem IsTape.lt {h : Hh} {n k : Nat} (t : IsTape h n k) : n < h.length := by
  obtain ⟨xs, s, f, p, g, _⟩ := t
  exact getL_of g
theorem IsTape.mono {h : Hh} {n k j : Nat} (t : IsTape h n k) (hj : k ≤ j) : IsTape h n j := by
  obtain ⟨xs, s, f, p, g, hf, hs⟩ := t
  exact ⟨xs, s, f, p, g, hf, Nat.le_trans hs hj⟩
noncomputable def F_law_draw_b1 : SL :=
  (.cons (.ite (.cmp .ge (.blt .abs (.cons (.ix (.var 2) (.ix (.var 0) (.cst (.int 3)))) .nil)) (.bop .pow (.cst (.int 10)) (.cst (.int 18))))
 (.cons (.ixSet (.var 0) (.cst (.int 2)) (.blt .abs (.cons (.ix (.var 2) (.ix (.var 0) (.cst (.int 3)))) .nil)))
  .nil)
 .nil)
  (.cons (.ixSet (.var 0) (.cst (.int 3)) (.bop .add (.ix (.var 0) (.cst (.int 3))) (.cst (.int 1))))
  .nil))
noncomputable def F_law_draw : Fn := .mk 2 7 false
  (.cons (.set 2 (.ix (.var 0) (.cst (.int 0))))
  (.cons (.set 3 (.ix (.var 0) (.cst (.int 1))))
  (.cons (.ixSet (.var 0) (.cst (.int 1)) (.bop .add (.var 3) (.cst (.int 1))))
  (.cons (.while_ (.and (.cmp .eq (.ix (.var 0) (.cst (.int 2))) (.cst (.int 0))) (.cmp .lt (.ix (.var 0) (.cst (.int 3))) (.blt .len (.cons (.var 2) .nil)))) F_law_draw_b1 [])
  (.cons (.ite (.cmp .gt (.ix (.var 0) (.cst (.int 2))) (.cst (.int 0)))
 (.cons (.set 6 (.ix (.var 0) (.cst (.int 2))))
  (.cons (.ixSet (.var 0) (.cst (.int 2)) (.bop .fdiv (.var 6) (.var 1)))
  (.cons (.ret (.bop .mod (.var 6) (.var 1)))
  .nil)))
 .nil)
  (.cons (.set 4 (.cst (.int 0)))
  (.cons (.ite (.cmp .gt (.blt .len (.cons (.var 2) .nil)) (.cst (.int 0)))
 (.cons (.set 4 (.ix (.var 2) (.bop .mod (.var 3) (.blt .len (.cons (.var 2) .nil)))))
  .nil)
 .nil)
  (.cons (.set 5 (.bop .mod (.bop .mul (.bop .add (.bop .mod (.var 4) (.cst (.int 1000003))) (.cst (.int 1))) (.bop .add (.bop .add (.bop .mul (.bop .mod (.var 3) (.cst (.int 997))) (.cst (.int 7919))) (.cst (.int 104729))) (.var 3))) (.cst (.int 1000033))))
  (.cons (.set 5 (.bop .mod (.bop .add (.bop .add (.bop .mul (.var 5) (.var 5)) (.bop .mul (.cst (.int 3)) (.var 5))) (.var 3)) (.cst (.int 999983))))
  (.cons (.ret (.bop .mod (.bop .mod (.bop .mul (.var 5) (.cst (.int 48271))) (.cst (.int 65537))) (.var 1)))
  .nil))))))))))
section
variable {l : List Nat} {h : Hh} {n : Nat}
theorem at0 {a b c d : D} : atD [a, b, c, d] 0 = some a := rfl
theorem at1 {a b c d : D} : atD [a, b, c, d] 1 = some b := rfl
theorem at2 {a b c d : D} : atD [a, b, c, d] 2 = some c := rfl
theorem at3 {a b c d : D} : atD [a, b, c, d] 3 = some d := rfl
theorem draw_loop (xs : List Int) (s : Nat) (M : Int) (τ : List (Option D)) : ∀ (k p : Nat) (f : Int) (h : Hh), xs.length - p = k → 0 ≤ f → getL h n = some (tapeD xs s f p) →
    ∃ f' p', 0 ≤ f' ∧ whileE l (.and (.cmp .eq (.ix (.var 0) (.cst (.int 2))) (.cst (.int 0))) (.cmp .lt (.ix (.var 0) (.cst (.int 3))) (.blt .len (.cons (.var 2) .nil)))) F_law_draw_b1 []
      (some (.ref n) :: some (.int M) :: some (.lst (xs.map .int)) :: τ) h = .ok (.nx (some (.ref n) :: some (.int M) :: some (.lst (xs.map .int)) :: τ)) (h.set n (.lst (tapeD xs s f' p'))) := by
  intro k
  induction k with
  | zero =>
    intro p f h hk hf g
    refine ⟨f, p, hf, ?_⟩
    rw [set_self g]
    have lt : decide ((p : Int) < (xs.length : Int)) = false := decide_eq_false (by omega)
    refine whileE_stop ?_
    by_cases f0 : f = 0
    · simp [ixV_ref g, tapeD, at2, at3, cop_eq, cop_lt, f0, blt_lenL, lt]
      omega
    · have : (f == 0) = false := by simpa using f0
      simp [ixV_ref g, tapeD, at2, cop_eq, this]
  | succ k ih =>
    intro p f h hk hf g
    have hn := getL_of g
    by_cases f0 : f = 0
    · have hp : p < xs.length := by omega
      have ax : atD (xs.map D.int) (p : Int) = some (.int xs[p]) := by rw [atD_nat (by simpa using hp)]; simp
      have step : ∃ f1, 0 ≤ f1 ∧ (exL l F_law_draw_b1 (some (.ref n) :: some (.int M) :: some (.lst (xs.map .int)) :: τ) h).bind (killV []) = .ok (.nx (some (.ref n) :: some (.int M) :: some (.lst (xs.map .int)) :: τ)) (h.set n (.lst (tapeD xs s f1 (p + 1)))) := by
        have p10 : bop .pow h (.int 10) (.int 18) = .ok (.int 1000000000000000000) h := by simp [bop]
        have g3 : ixV h (.ref n) (.int 3) = .ok (.int p) h := ixV_ref g rfl
        have ab : blt .abs h [.int xs[p]] = .ok (.int (if xs[p] < 0 then -xs[p] else xs[p])) h := rfl
        obtain ⟨a, ea⟩ : ∃ a, a = (if xs[p] < 0 then -xs[p] else xs[p]) := ⟨_, rfl⟩
        rw [← ea] at ab
        by_cases big : 1000000000000000000 ≤ a
        · refine ⟨a, by omega, ?_⟩
          have g' : getL (h.set n (.lst (tapeD xs s a p))) n = some (tapeD xs s a p) := getL_set hn
          have si : setItem l h (.ref n) (.int 2) (.int a) = .ok () (h.set n (.lst (tapeD xs s a p))) := setItem_int g (j := 2) rfl
          have g3' : ixV (h.set n (.lst (tapeD xs s a p))) (.ref n) (.int 3) = .ok (.int p) _ := ixV_ref g' rfl
          have si' : setItem l (h.set n (.lst (tapeD xs s a p))) (.ref n) (.int 3) (.int (p + 1)) = .ok () (h.set n (.lst (tapeD xs s a (p + 1)))) := by rw [setItem_int g' (j := 3) rfl, List.set_set]; rfl
          simp [F_law_draw_b1, g3, ixV_lst ax, ab, p10, cop_ge, big, si, g3', bop_add, si']
        · refine ⟨f, hf, ?_⟩
          have si' : setItem l h (.ref n) (.int 3) (.int (p + 1)) = .ok () (h.set n (.lst (tapeD xs s f (p + 1)))) := setItem_int g (j := 3) rfl
          simp [F_law_draw_b1, g3, ixV_lst ax, ab, p10, cop_ge, big, bop_add, si']
      obtain ⟨f1, hf1, e1⟩ := step
      have ec : evE l (.and (.cmp .eq (.ix (.var 0) (.cst (.int 2))) (.cst (.int 0))) (.cmp .lt (.ix (.var 0) (.cst (.int 3))) (.blt .len (.cons (.var 2) .nil)))) (some (.ref n) :: some (.int M) :: some (.lst (xs.map .int)) :: τ) h = .ok (.bl true) h := by
        have lt : decide ((p : Int) < (xs.length : Int)) = true := decide_eq_true (by omega)
        simp [ixV_ref g, tapeD, at2, at3, cop_eq, cop_lt, f0, blt_lenL, lt]
        omega
      obtain ⟨f2, p2, hf2, e2⟩ := ih (p + 1) f1 _ (by omega) hf1 (getL_set hn)
      exact ⟨f2, p2, hf2, by rw [whileE_step ec e1, e2, List.set_set]⟩
    · refine ⟨f, p, hf, ?_⟩
      rw [set_self g]
      refine whileE_stop ?_
      have : (f == 0) = false := by simpa using f0
      simp [ixV_ref g, tapeD, at2, cop_eq, this]
theorem fmodB {i j : Int} (hj : 0 < j) : 0 ≤ i.fmod j ∧ i.fmod j < j := ⟨Int.fmod_nonneg_of_pos _ hj, Int.fmod_lt_of_pos _ hj⟩
theorem draw_ok {k : Nat} (t : IsTape h n k) (hk : k < 2 ^ 40) {m : Int} (h0 : 0 < m) (h1 : m < 2 ^ 64) : ∃ v ds, 0 ≤ v ∧ v < m ∧ callF l F_law_draw [.ref n, .int m] h = .ok (.int v) (h.set n (.lst ds)) ∧ IsTape (h.set n (.lst ds)) n (k + 1) := by
  obtain ⟨xs, s, f, p, g, hf, hsk⟩ := t
  have hn := getL_of g
  have g0 : ixV h (.ref n) (.int 0) = .ok (.lst (xs.map .int)) h := ixV_ref g rfl
  have g1 : ixV h (.ref n) (.int 1) = .ok (.int s) h := ixV_ref g rfl
  have si : setItem (h.length :: l) h (.ref n) (.int 1) (.int (s + 1)) = .ok () (h.set n (.lst (tapeD xs (s + 1) f p))) := setItem_int g (j := 1) rfl
  have g' : getL (h.set n (.lst (tapeD xs (s + 1) f p))) n = some (tapeD xs (s + 1) f p) := getL_set hn
  obtain ⟨f', p', hf', el⟩ := draw_loop (l := h.length :: l) (n := n) xs (s + 1) m [some (.int s), none, none, none] _ p f _ rfl hf g'
  rw [List.set_set] at el
  have g2 : getL (h.set n (.lst (tapeD xs (s + 1) f' p'))) n = some (tapeD xs (s + 1) f' p') := getL_set hn
  have r2 : ixV (h.set n (.lst (tapeD xs (s + 1) f' p'))) (.ref n) (.int 2) = .ok (.int f') _ := ixV_ref g2 rfl
  have m0 : m ≠ 0 := by omega
  have sm : small m = true := sm_lt (by omega) h1
  by_cases fp : 0 < f'
  · have si2 : ∀ i, setItem (h.length :: l) (h.set n (.lst (tapeD xs (s + 1) f' p'))) (.ref n) (.int 2) (.int i) = .ok () (h.set n (.lst (tapeD xs (s + 1) i p'))) := fun i => by rw [setItem_int g2 (j := 2) rfl, List.set_set]; rfl
    refine ⟨f'.fmod m, tapeD xs (s + 1) (f'.fdiv m) p', (fmodB h0).1, (fmodB h0).2, ?_, xs, s + 1, f'.fdiv m, p', getL_set hn, ?_, by omega⟩
    · simp [F_law_draw, g0, g1, bop_add, si, el, r2, cop_gt, fp, bop_fdiv _ m0 sm, bop_mod _ m0, si2]
      rw [fin_int set_len]
    · rw [Int.fdiv_eq_ediv_of_nonneg _ (by omega)]
      exact Int.ediv_nonneg (by omega) (by omega)
  · -- the script's cell, mixed
    suffices ∃ V : Int, callF l F_law_draw [.ref n, .int m] h = .ok (.int (V.fmod m)) (h.set n (.lst (tapeD xs (s + 1) f' p'))) by
      obtain ⟨V, e⟩ := this
      exact ⟨_, _, (fmodB h0).1, (fmodB h0).2, e, xs, s + 1, f', p', getL_set hn, hf', by omega⟩
    have mx : ∀ (c : Int) (hh : Hh), bop .mul hh (.int (c.fmod 1000003 + 1)) (.int ((s : Int).fmod 997 * 7919 + 104729 + s)) = .ok (.int ((c.fmod 1000003 + 1) * ((s : Int).fmod 997 * 7919 + 104729 + s))) hh := fun c hh => by
      have a := fmodB (i := c) (j := 1000003) (by decide)
      have b := fmodB (i := (s : Int)) (j := 997) (by decide)
      exact bop_mul _ (sm_lt (by omega) (by omega)) (sm_lt (by omega) (by omega))
    have e1 : ∀ hh, bop .mul hh (.int ((s : Int).fmod 997)) (.int 7919) = .ok (.int ((s : Int).fmod 997 * 7919)) hh := fun hh => by
      have b := fmodB (i := (s : Int)) (j := 997) (by decide)
      exact bop_mul _ (sm_lt (by omega) (by omega)) (sm_lt (by omega) (by omega))
    have sq : ∀ (w : Int) hh, bop .mul hh (.int (w.fmod 1000033)) (.int (w.fmod 1000033)) = .ok (.int (w.fmod 1000033 * w.fmod 1000033)) hh := fun w hh => by
      have b := fmodB (i := w) (j := 1000033) (by decide)
      exact bop_mul _ (sm_lt (by omega) (by omega)) (sm_lt (by omega) (by omega))
    have th : ∀ (w : Int) hh, bop .mul hh (.int 3) (.int (w.fmod 1000033)) = .ok (.int (3 * w.fmod 1000033)) hh := fun w hh => by
      have b := fmodB (i := w) (j := 1000033) (by decide)
      exact bop_mul _ (sm_lt (by omega) (by omega)) (sm_lt (by omega) (by omega))
    have la : ∀ (w : Int) hh, bop .mul hh (.int (w.fmod 999983)) (.int 48271) = .ok (.int (w.fmod 999983 * 48271)) hh := fun w hh => by
      have b := fmodB (i := w) (j := 999983) (by decide)
      exact bop_mul _ (sm_lt (by omega) (by omega)) (sm_lt (by omega) (by omega))
    have md1 : ∀ (i : Int) hh, bop .mod hh (.int i) (.int 1000003) = .ok (.int (i.fmod 1000003)) hh := fun i hh => bop_mod _ (by decide)
    have md2 : ∀ (i : Int) hh, bop .mod hh (.int i) (.int 997) = .ok (.int (i.fmod 997)) hh := fun i hh => bop_mod _ (by decide)
    have md3 : ∀ (i : Int) hh, bop .mod hh (.int i) (.int 1000033) = .ok (.int (i.fmod 1000033)) hh := fun i hh => bop_mod _ (by decide)
    have md4 : ∀ (i : Int) hh, bop .mod hh (.int i) (.int 999983) = .ok (.int (i.fmod 999983)) hh := fun i hh => bop_mod _ (by decide)
    have md5 : ∀ (i : Int) hh, bop .mod hh (.int i) (.int 65537) = .ok (.int (i.fmod 65537)) hh := fun i hh => bop_mod _ (by decide)
    have md6 : ∀ (i : Int) hh, bop .mod hh (.int i) (.int m) = .ok (.int (i.fmod m)) hh := fun i hh => bop_mod _ m0
    cases xs with
    | nil =>
      refine ⟨?_, ?_⟩
      rotate_left
      · simp only [List.map_nil] at g0 el
        have mx0 := fun hh => mx 0 hh
        simp only [Int.zero_fmod, Int.zero_add] at mx0
        simp [F_law_draw, g0, g1, bop_add, si, el, r2, cop_gt, fp, blt_lenL, md1, md2, md3, md4, md5, md6, e1, sq, th, la, mx0]
        rw [fin_int set_len]
    | cons x xs =>
      have lp : (0 : Int) < (xs.length : Int) + 1 := by omega
      have bd := fmodB (i := (s : Int)) lp
      obtain ⟨c, ec⟩ : ∃ c, atD ((x :: xs).map D.int) ((s : Int).fmod ((xs.length : Int) + 1)) = some (.int c) := by
        obtain ⟨q, hq⟩ : ∃ q : Nat, (s : Int).fmod ((xs.length : Int) + 1) = q := ⟨_, (Int.toNat_of_nonneg bd.1).symm⟩
        rw [hq] at bd ⊢
        have hl : q < ((x :: xs).map D.int).length := by simp; omega
        rw [atD_nat hl]
        exact ⟨_, by rw [List.getElem_map]⟩
      have ml : ∀ hh, bop .mod hh (.int s) (.int ((xs.length : Int) + 1)) = .ok (.int ((s : Int).fmod ((xs.length : Int) + 1))) hh := fun hh => bop_mod _ (by omega)
      have lt : decide ((0 : Int) < (xs.length : Int) + 1) = true := decide_eq_true lp
      have ix : ∀ hh, ixV hh (.lst (D.int x :: xs.map D.int)) (.int ((s : Int).fmod ((xs.length : Int) + 1))) = .ok (.int c) hh := fun hh => ixV_lst ec
      refine ⟨?_, ?_⟩
      rotate_left
      · simp only [List.map_cons] at g0 el
        simp [F_law_draw, g0, g1, bop_add, si, el, r2, cop_gt, fp, blt_lenL, md1, md2, md3, md4, md5, md6, e1, sq, th, la, mx, ml, ix, lt]
        rw [fin_int set_len]
noncomputable def F_law_tape : Fn := .mk 1 1 true
  (.cons (.ret (.alloc (.lst (.cons (.sl (.var 0) .no (.cst (.int 63))) (.cons (.cst (.int 0)) (.cons (.cst (.int 0)) (.cons (.cst (.int 0)) .nil)))))))
  .nil)
theorem tape_ok (ns : List Int) : ∃ ds, callF l F_law_tape [.scr ns] h = .ok (.ref h.length) (h ++ [.lst ds]) ∧ IsTape (h ++ [.lst ds]) h.length 0 := by
  have e : cut (ns.map D.int) none (some 63) = (ns.take 63).map .int := by
    simp [cut, cutIx, List.map_take]
  have z : ∀ k : Nat, ((63 : Int).toNat) = 63 := fun _ => rfl
  have sl : slV h (.scr ns) none (some 63) = .ok (.lst ((ns.take 63).map .int)) h := by
    simp only [slV, listOf]
    rw [e]
  have lt : 4 ≤ sizeLine := by decide
  refine ⟨tapeD (ns.take 63) 0 0 0, ?_, ns.take 63, 0, 0, 0, ?_, by omega, by omega⟩
  · simp [F_law_tape, sl, allocV, fin, tapeD, lt]
  · simp [getL]
/-- several draws leave one changed object -/
theorem getL_app {h : Hh} {o : Ob} {ds : List D} (e : o = .lst ds) : getL (h ++ [o]) h.length = some ds := by subst e; simp [getL]
end
end Mp

set_option maxRecDepth 100000
/-! Mz: names of globals and of called defs do not matter. -/
namespace Mp
open PySem
mutual
def E.st : E → E
  | .no => .no
  | .var i => .var i
  | .cst d => .cst d
  | .glob _ d => .glob "" d
  | .bop o a b => .bop o a.st b.st
  | .neg a => .neg a.st
  | .not a => .not a.st
  | .and a b => .and a.st b.st
  | .or a b => .or a.st b.st
  | .cmp o a b => .cmp o a.st b.st
  | .chain o p a b c => .chain o p a.st b.st c.st
  | .chain3 o p q a b c d => .chain3 o p q a.st b.st c.st d.st
  | .isN a => .isN a.st
  | .notN a => .notN a.st
  | .isB a b => .isB a.st b
  | .notB a b => .notB a.st b
  | .ite c a b => .ite c.st a.st b.st
  | .tup es => .tup es.st
  | .lst es => .lst es.st
  | .ix a b => .ix a.st b.st
  | .sl a lo hi => .sl a.st lo.st hi.st
  | .rev a => .rev a.st
  | .call _ f es => .call "" f.st es.st
  | .blt b es => .blt b es.st
  | .isin a ts => .isin a.st ts
  | .comp e tg src c => .comp e.st tg src.st c.st
  | .compX e tg src => .compX e.st tg src.st
  | .alloc e => .alloc e.st
  | .vals i k j => .vals i k j
  | .pick ps a => .pick ps a.st
  | .fld a f => .fld a.st f
  | .xfld a f => .xfld a.st f
  | .meth c x f a es => .meth c x f.st a.st es.st
  | .make c f es => .make c f.st es.st
  | .bm m a es => .bm m a.st es.st
  | .mkx c es => .mkx c es.st
def EL.st : EL → EL
  | .nil => .nil
  | .cons e es => .cons e.st es.st
def It.st : It → It
  | .seq a => .seq a.st
  | .rg1 a => .rg1 a.st
  | .rg2 a b => .rg2 a.st b.st
  | .enum a => .enum a.st
  | .zip a b => .zip a.st b.st
def S.st : S → S
  | .ex e => .ex e.st
  | .set i e => .set i e.st
  | .unp is e => .unp is e.st
  | .par i j es => .par i j es.st
  | .ixSet o i v => .ixSet o.st i.st v.st
  | .fldSet o f v => .fldSet o.st f v.st
  | .ret e => .ret e.st
  | .ite c a b => .ite c.st a.st b.st
  | .for_ tg src body kill => .for_ tg src.st body.st kill
  | .while_ c body kill => .while_ c.st body.st kill
  | .raise c es => .raise c es.st
  | .try_ body hs => .try_ body.st hs.st
  | .pass => .pass
  | .kill is => .kill is
  | .never => .never
def SL.st : SL → SL
  | .nil => .nil
  | .cons s ss => .cons s.st ss.st
def HL.st : HL → HL
  | .nil => .nil
  | .cons c i suite hs => .cons c i suite.st hs.st
def Fn.st : Fn → Fn
  | .mk np ns keep body => .mk np ns keep body.st
end
theorem isNo_st : ∀ c : E, isNo c.st = isNo c := fun c => by cases c <;> rfl
mutual
theorem evE_st : ∀ (e : E) (l : List Nat) (σ : Sg) (h : Hh), evE l e.st σ h = evE l e σ h
  | .no, l, σ, h => rfl
  | .var i, l, σ, h => rfl
  | .cst d, l, σ, h => rfl
  | .glob _ d, l, σ, h => by simp only [E.st, evE_glob]
  | .bop o a b, l, σ, h => by simp only [E.st, evE_bop, evE_st a, evE_st b]
  | .neg a, l, σ, h => by simp only [E.st, evE_neg, evE_st a]
  | .not a, l, σ, h => by simp only [E.st, evE_not, evE_st a]
  | .and a b, l, σ, h => by simp only [E.st, evE_and, evE_st a, evE_st b]
  | .or a b, l, σ, h => by simp only [E.st, evE_or, evE_st a, evE_st b]
  | .cmp o a b, l, σ, h => by simp only [E.st, evE_cmp, evE_st a, evE_st b]
  | .chain o p a b c, l, σ, h => by simp only [E.st, evE_chain, evE_st a, evE_st b, evE_st c]
  | .chain3 o p q a b c d, l, σ, h => by simp only [E.st, evE_chain3, evE_st a, evE_st b, evE_st c, evE_st d]
  | .isN a, l, σ, h => by simp only [E.st, evE_isN, evE_st a]
  | .notN a, l, σ, h => by simp only [E.st, evE_notN, evE_st a]
  | .isB a b, l, σ, h => by simp only [E.st, evE_isB, evE_st a]
  | .notB a b, l, σ, h => by simp only [E.st, evE_notB, evE_st a]
  | .ite c a b, l, σ, h => by simp only [E.st, evE_ite, evE_st a, evE_st b, evE_st c]
  | .tup es, l, σ, h => by simp only [E.st, evE_tup, evL_st es]
  | .lst es, l, σ, h => by simp only [E.st, evE_lst, evL_st es]
  | .ix a b, l, σ, h => by simp only [E.st, evE_ix, evE_st a, evE_st b]
  | .sl a lo hi, l, σ, h => by simp only [E.st, evE_sl, evE_st a, evE_st lo, evE_st hi, isNo_st]
  | .rev a, l, σ, h => by simp only [E.st, evE_rev, evE_st a]
  | .call x f es, l, σ, h => by simp only [E.st, evE_call, evL_st es, callF_st f]
  | .blt b es, l, σ, h => by simp only [E.st, evE_blt, evL_st es]
  | .isin a ts, l, σ, h => by simp only [E.st, evE_isin, evE_st a]
  | .comp e tg src c, l, σ, h => by
    have f1 : evE l e.st = evE l e := by funext σ h; exact evE_st e l σ h
    have f2 : evE l c.st = evE l c := by funext σ h; exact evE_st c l σ h
    simp only [E.st, evE_comp, compE, evI_st src, f1, f2, isNo_st]
  | .compX e tg src, l, σ, h => by
    have f1 : evE l e.st = evE l e := by funext σ h; exact evE_st e l σ h
    simp only [E.st, evE_compX, compE, evI_st src, f1]
  | .alloc e, l, σ, h => by simp only [E.st, evE_alloc, evE_st e]
  | .vals _ _ _, l, σ, h => rfl
  | .pick _ e, l, σ, h => by simp only [E.st, evE_pick, evE_st e]
  | .fld a f, l, σ, h => by simp only [E.st, evE_fld, evE_st a]
  | .xfld a f, l, σ, h => by simp only [E.st, evE_xfld, evE_st a]
  | .meth c x f a es, l, σ, h => by simp only [E.st, evE_meth, evE_st a, evL_st es, callF_st f]
  | .make c f es, l, σ, h => by simp only [E.st, evE_make, evL_st es, callF_st f]
  | .bm m a es, l, σ, h => by simp only [E.st, evE_bm, evE_st a, evL_st es]
  | .mkx c es, l, σ, h => by simp only [E.st, evE_mkx, evL_st es]
theorem evL_st : ∀ (e : EL) (l : List Nat) (σ : Sg) (h : Hh), evL l e.st σ h = evL l e σ h
  | .nil, l, σ, h => rfl
  | .cons e es, l, σ, h => by simp only [EL.st, evL_cons, evE_st e, evL_st es]
theorem evI_st : ∀ (e : It) (l : List Nat) (σ : Sg) (h : Hh), evI l e.st σ h = evI l e σ h
  | .seq a, l, σ, h => by simp only [It.st, evI_seq, evE_st a]
  | .rg1 a, l, σ, h => by simp only [It.st, evI_rg1, evE_st a]
  | .rg2 a b, l, σ, h => by simp only [It.st, evI_rg2, evE_st a, evE_st b]
  | .enum a, l, σ, h => by simp only [It.st, evI_enum, evE_st a]
  | .zip a b, l, σ, h => by simp only [It.st, evI_zip, evE_st a, evE_st b]
theorem exS_st : ∀ (e : S) (l : List Nat) (σ : Sg) (h : Hh), exS l e.st σ h = exS l e σ h
  | .ex e, l, σ, h => by simp only [S.st, exS_ex, evE_st e]
  | .set i e, l, σ, h => by simp only [S.st, exS_set, evE_st e]
  | .unp is e, l, σ, h => by simp only [S.st, exS_unp, evE_st e]
  | .par i j es, l, σ, h => by simp only [S.st, exS_par, evL_st es]
  | .ixSet o i v, l, σ, h => by simp only [S.st, exS_ixSet, evE_st o, evE_st i, evE_st v]
  | .fldSet o f v, l, σ, h => by simp only [S.st, exS_fldSet, evE_st o, evE_st v]
  | .ret e, l, σ, h => by simp only [S.st, exS_ret, evE_st e]
  | .ite c a b, l, σ, h => by simp only [S.st, exS_ite, evE_st c, exL_st a, exL_st b]
  | .for_ tg src body kill, l, σ, h => by
    have f1 : exL l body.st = exL l body := by funext σ h; exact exL_st body l σ h
    simp only [S.st, exS_for, forE, evI_st src, f1]
  | .while_ c body kill, l, σ, h => by
    have f1 : exL l body.st = exL l body := by funext σ h; exact exL_st body l σ h
    have f2 : evE l c.st = evE l c := by funext σ h; exact evE_st c l σ h
    simp only [S.st, exS_while, whileE, f1, f2]
  | .raise c es, l, σ, h => by simp only [S.st, exS_raise, evL_st es]
  | .try_ body hs, l, σ, h => by
    have f1 : exH l hs.st = exH l hs := by funext c fs σ h; exact exH_st hs l c fs σ h
    simp only [S.st, exS_try, exL_st body, f1]
  | .pass, l, σ, h => rfl
  | .kill is, l, σ, h => rfl
  | .never, l, σ, h => rfl
theorem exL_st : ∀ (e : SL) (l : List Nat) (σ : Sg) (h : Hh), exL l e.st σ h = exL l e σ h
  | .nil, l, σ, h => rfl
  | .cons s ss, l, σ, h => by simp only [SL.st, exL_cons, exS_st s, exL_st ss]
theorem exH_st : ∀ (e : HL) (l : List Nat) (c : String) (fs : List D) (σ : Sg) (h : Hh), exH l e.st c fs σ h = exH l e c fs σ h
  | .nil, l, c, fs, σ, h => rfl
  | .cons c' i suite hs, l, c, fs, σ, h => by simp only [HL.st, exH_cons, exL_st suite, exH_st hs]
theorem callF_st : ∀ (f : Fn) (l : List Nat) (ds : List D) (h : Hh), callF l f.st ds h = callF l f ds h
  | .mk np ns keep body, l, ds, h => by simp only [Fn.st, callF_mk, exL_st body]
end
/-- terms that are alike but for names -/
theorem same_call {f g : Fn} (e : f.st = g.st) (l : List Nat) (ds : List D) (h : Hh) : callF l f ds h = callF l g ds h := by
  rw [← callF_st f, e, callF_st g]
end Mp

set_option maxRecDepth 100000
/-! Mq2: ratios. -/
namespace Mp
open PySem

def ratD (q : Rat) : D := .tup [.int q.num, .int q.den]
/-- its parts are below 2 ^ n -/
def Sz (n : Nat) (q : Rat) : Prop := q.num.natAbs < 2 ^ n ∧ q.den < 2 ^ n
theorem Sz.mono {n m : Nat} {q : Rat} (s : Sz n q) (h : n ≤ m) : Sz m q :=
  ⟨Nat.lt_of_lt_of_le s.1 (Nat.pow_le_pow_right (by decide) h), Nat.lt_of_lt_of_le s.2 (Nat.pow_le_pow_right (by decide) h)⟩
theorem smN {n : Nat} {i : Int} (h : i.natAbs < 2 ^ n) (hn : n ≤ 9000) : small i = true := sm_of (Nat.lt_of_lt_of_le h (Nat.pow_le_pow_right (by decide) hn))
theorem mulN {n m : Nat} {i j : Int} (h : i.natAbs < 2 ^ n) (h' : j.natAbs < 2 ^ m) : (i * j).natAbs < 2 ^ (n + m) := by
  rw [Int.natAbs_mul, Nat.pow_add]
  exact Nat.mul_lt_mul'' h h'
theorem addN {n : Nat} {i j : Int} (h : i.natAbs < 2 ^ n) (h' : j.natAbs < 2 ^ n) : (i + j).natAbs < 2 ^ (n + 1) := by
  rw [Nat.pow_succ]
  omega
theorem divInt_num_le {a b : Int} (hb : b ≠ 0) : (Rat.divInt a b).num.natAbs ≤ a.natAbs := by
  rw [Rat.num_divInt]
  have e : (b.sign * a).natAbs = a.natAbs := by
    rw [Int.natAbs_mul, Int.natAbs_sign_of_ne_zero hb, Nat.one_mul]
  refine Nat.le_trans (Int.natAbs_ediv_le_natAbs _ _) (Nat.le_of_eq e)
theorem divInt_den_le {a b : Int} (hb : b ≠ 0) : (Rat.divInt a b).den ≤ b.natAbs := by
  rw [Rat.den_divInt, if_neg hb]
  exact Nat.div_le_self _ _
theorem Sz.divInt {n : Nat} {a b : Int} (hb : b ≠ 0) (h : a.natAbs < 2 ^ n) (h' : b.natAbs < 2 ^ n) : Sz n (Rat.divInt a b) :=
  ⟨Nat.lt_of_le_of_lt (divInt_num_le hb) h, Nat.lt_of_le_of_lt (divInt_den_le hb) h'⟩

/-! ### the program's words -/
namespace P
noncomputable def F_divisor_b1 : SL :=
  (.cons (.par 0 1 (.cons (.var 1) (.cons (.bop .mod (.var 0) (.var 1)) .nil)))
  .nil)
noncomputable def F_divisor : Fn := .mk 2 2 false
  (.cons (.while_ (.cmp .ne (.var 1) (.cst (.int 0))) F_divisor_b1 [])
  (.cons (.ret (.var 0))
  .nil))
/-- r: what stands for the refusal -/
noncomputable def F_ratio (r : S) : Fn := .mk 2 3 false
  (.cons (.ite (.cmp .eq (.var 1) (.cst (.int 0)))
 (.cons r
  .nil)
 .nil)
  (.cons (.ite (.cmp .lt (.var 1) (.cst (.int 0)))
 (.cons (.set 0 (.neg (.var 0)))
  (.cons (.set 1 (.neg (.var 1)))
  .nil))
 .nil)
  (.cons (.set 2 (.call "divisor" F_divisor (.cons (.blt .abs (.cons (.var 0) .nil)) (.cons (.var 1) .nil))))
  (.cons (.ret (.tup (.cons (.bop .fdiv (.var 0) (.var 2)) (.cons (.bop .fdiv (.var 1) (.var 2)) .nil))))
  .nil))))
noncomputable def F_plus (r : S) : Fn := .mk 2 2 false
  (.cons (.ret (.call "ratio" (F_ratio r) (.cons (.bop .add (.bop .mul (.ix (.var 0) (.cst (.int 0))) (.ix (.var 1) (.cst (.int 1)))) (.bop .mul (.ix (.var 1) (.cst (.int 0))) (.ix (.var 0) (.cst (.int 1))))) (.cons (.bop .mul (.ix (.var 0) (.cst (.int 1))) (.ix (.var 1) (.cst (.int 1)))) .nil))))
  .nil)
noncomputable def F_minus (r : S) : Fn := .mk 2 2 false
  (.cons (.ret (.call "ratio" (F_ratio r) (.cons (.bop .sub (.bop .mul (.ix (.var 0) (.cst (.int 0))) (.ix (.var 1) (.cst (.int 1)))) (.bop .mul (.ix (.var 1) (.cst (.int 0))) (.ix (.var 0) (.cst (.int 1))))) (.cons (.bop .mul (.ix (.var 0) (.cst (.int 1))) (.ix (.var 1) (.cst (.int 1)))) .nil))))
  .nil)
noncomputable def F_times (r : S) : Fn := .mk 2 2 false
  (.cons (.ret (.call "ratio" (F_ratio r) (.cons (.bop .mul (.ix (.var 0) (.cst (.int 0))) (.ix (.var 1) (.cst (.int 0)))) (.cons (.bop .mul (.ix (.var 0) (.cst (.int 1))) (.ix (.var 1) (.cst (.int 1)))) .nil))))
  .nil)
noncomputable def F_over (r : S) : Fn := .mk 2 2 false
  (.cons (.ret (.call "ratio" (F_ratio r) (.cons (.bop .mul (.ix (.var 0) (.cst (.int 0))) (.ix (.var 1) (.cst (.int 1)))) (.cons (.bop .mul (.ix (.var 0) (.cst (.int 1))) (.ix (.var 1) (.cst (.int 0)))) .nil))))
  .nil)
noncomputable def F_is_less : Fn := .mk 2 2 false
  (.cons (.ret (.cmp .lt (.bop .mul (.ix (.var 0) (.cst (.int 0))) (.ix (.var 1) (.cst (.int 1)))) (.bop .mul (.ix (.var 1) (.cst (.int 0))) (.ix (.var 0) (.cst (.int 1))))))
  .nil)
section
variable {l : List Nat} {h : Hh}
theorem gcd_step {a b : Int} (ha : 0 ≤ a) (hb : 0 < b) : Int.gcd b (a.fmod b) = Int.gcd a b := by
  rw [Int.fmod_eq_emod_of_nonneg _ (by omega), Int.gcd_comm a b]
  simp [Int.gcd, Int.natAbs_emod_of_nonneg ha, Nat.gcd_comm]
  rw [Nat.gcd_comm, ← Nat.gcd_rec, Nat.gcd_comm]
theorem divisor_ok {a b : Int} (ha : 0 ≤ a) (hb : 0 ≤ b) : callF l F_divisor [.int a, .int b] h = .ok (.int (Int.gcd a b)) h := by
  have loop : ∀ (n : Nat) (l : List Nat) (a b : Int), 0 ≤ a → 0 ≤ b → b.toNat = n → whileE l (.cmp .ne (.var 1) (.cst (.int 0))) F_divisor_b1 [] [some (.int a), some (.int b)] h = .ok (.nx [some (.int (Int.gcd a b)), some (.int 0)]) h := by
    intro n
    induction n using Nat.strongRecOn with
    | ind n ih =>
      intro l a b ha hb hn
      by_cases h0 : b = 0
      · subst h0
        have : ((Int.gcd a 0 : Nat) : Int) = a := by simp; omega
        rw [this]
        exact whileE_stop (by simp [cop_ne])
      · have hb' : (b == 0) = false := by simpa using h0
        have h1 := Int.fmod_nonneg_of_pos a (show 0 < b by omega)
        have h2 := Int.fmod_lt_of_pos a (show 0 < b by omega)
        have e := ih (a.fmod b).toNat (by omega) l b (a.fmod b) hb h1 rfl
        rw [whileE_step (h1 := h) (σ' := [some (.int b), some (.int (a.fmod b))]) (h2 := h) (by simp [cop_ne, hb']) (by simp [F_divisor_b1, bop_mod _ h0]), e, gcd_step ha (by omega)]
  simp [F_divisor, loop _ _ a b ha hb rfl, fin_int]
theorem fin_rat {q : Rat} {b : Nat} (e : h.length = b) : fin false b (ratD q) h = .ok (ratD q) h := by
  subst e
  simp [fin, ratD, D.und, D.unds]
theorem fdiv_of {a g : Int} (hg : 0 ≤ g) : a.fdiv g = a / g := Int.fdiv_eq_ediv_of_nonneg a hg
theorem ratio_ok {r : S} {a b : Int} (hb : b ≠ 0) {n : Nat} (sb : b.natAbs < 2 ^ n) (hn : n ≤ 9000) : callF l (F_ratio r) [.int a, .int b] h = .ok (ratD (Rat.divInt a b)) h := by
  have b0 : (b == 0) = false := by simpa using hb
  have two : 2 ≤ sizeLine := by decide
  have gp : 0 < Int.gcd a b := Int.gcd_pos_of_ne_zero_right _ hb
  have gl : Int.gcd a b ≤ b.natAbs := Nat.le_of_dvd (by omega) (Int.gcd_dvd_natAbs_right a b)
  have sg : small ((Int.gcd a b : Nat) : Int) = true := smN (n := n) (by simp; omega) hn
  have g0 : ((Int.gcd a b : Nat) : Int) ≠ 0 := by omega
  have ga : Int.gcd (if a < 0 then -a else a) b = Int.gcd a b := by split <;> simp
  have gn : Int.gcd (if 0 < a then a else -a) (-b) = Int.gcd a b := by split <;> simp
  have eq1 : (Rat.divInt a b).num = b.sign * a / ((Int.gcd a b : Nat) : Int) := by rw [Rat.num_divInt, Int.gcd_comm]
  have eq2 : (((Rat.divInt a b).den : Nat) : Int) = (b.natAbs : Int) / ((Int.gcd a b : Nat) : Int) := by
    rw [Rat.den_divInt, if_neg hb, Int.gcd_comm]; rfl
  by_cases neg : b < 0
  · have dv : callF (h.length :: l) F_divisor [.int (if 0 < a then a else -a), .int (-b)] h = .ok (.int (Int.gcd a b)) h := by
      rw [divisor_ok (by split <;> omega) (by omega), gn]
    have e1 : (-a).fdiv ((Int.gcd a b : Nat) : Int) = (Rat.divInt a b).num := by
      rw [fdiv_of (by omega), eq1, Int.sign_eq_neg_one_of_neg neg]; simp
    have e2 : (-b).fdiv ((Int.gcd a b : Nat) : Int) = (Rat.divInt a b).den := by
      rw [fdiv_of (by omega), eq2]; congr 1; omega
    have ab : blt .abs h [.int (-a)] = .ok (.int (if 0 < a then a else -a)) h := by rw [blt_abs]; simp
    simp [F_ratio, cop_eq, b0, cop_lt, neg, ab, dv, bop_fdiv _ g0 sg, two, e1, e2]
    exact fin_rat rfl
  · have dv : callF (h.length :: l) F_divisor [.int (if a < 0 then -a else a), .int b] h = .ok (.int (Int.gcd a b)) h := by
      rw [divisor_ok (by split <;> omega) (by omega), ga]
    have e1 : a.fdiv ((Int.gcd a b : Nat) : Int) = (Rat.divInt a b).num := by
      rw [fdiv_of (by omega), eq1, Int.sign_eq_one_of_pos (by omega)]; simp
    have e2 : b.fdiv ((Int.gcd a b : Nat) : Int) = (Rat.divInt a b).den := by
      rw [fdiv_of (by omega), eq2]; congr 1; omega
    simp [F_ratio, cop_eq, b0, cop_lt, neg, blt_abs, dv, bop_fdiv _ g0 sg, two, e1, e2]
    exact fin_rat rfl
theorem at20 {q : Rat} {hh : Hh} : ixV hh (ratD q) (.int 0) = .ok (.int q.num) hh := rfl
theorem at21 {q : Rat} {hh : Hh} : ixV hh (ratD q) (.int 1) = .ok (.int q.den) hh := rfl
theorem den0 (q : Rat) : ((q.den : Nat) : Int) ≠ 0 := by have := q.den_nz; omega
theorem denN {n : Nat} {q : Rat} (s : Sz n q) : ((q.den : Nat) : Int).natAbs < 2 ^ n := by simpa using s.2
theorem add_eq (p q : Rat) : Rat.divInt (p.num * q.den + q.num * p.den) (p.den * q.den) = p + q := by
  rw [Rat.add_def', ← Rat.divInt_ofNat]; simp
theorem sub_eq (p q : Rat) : Rat.divInt (p.num * q.den - q.num * p.den) (p.den * q.den) = p - q := by
  rw [Rat.sub_def', ← Rat.divInt_ofNat]; simp
theorem mul_eq (p q : Rat) : Rat.divInt (p.num * q.num) (p.den * q.den) = p * q := by
  rw [Rat.mul_def', ← Rat.divInt_ofNat]; simp
theorem div_eq (p q : Rat) : Rat.divInt (p.num * q.den) (p.den * q.num) = p / q := by
  rw [Rat.div_def, Rat.inv_def, ← Rat.divInt_mul_divInt, Rat.num_divInt_den]
theorem Sz.add {n m : Nat} {p q : Rat} (s : Sz n p) (t : Sz m q) : Sz (n + m + 1) (p + q) := by
  rw [← add_eq]
  refine Sz.divInt (by have := den0 p; have := den0 q; exact Int.mul_ne_zero ‹_› ‹_›) (addN (mulN s.1 (denN t)) ?_) (Nat.lt_of_lt_of_le (mulN (denN s) (denN t)) (Nat.pow_le_pow_right (by decide) (by omega)))
  rw [Nat.add_comm]; exact mulN t.1 (denN s)
theorem Sz.sub {n m : Nat} {p q : Rat} (s : Sz n p) (t : Sz m q) : Sz (n + m + 1) (p - q) := by
  rw [← sub_eq]
  refine Sz.divInt (by have := den0 p; have := den0 q; exact Int.mul_ne_zero ‹_› ‹_›) ?_ (Nat.lt_of_lt_of_le (mulN (denN s) (denN t)) (Nat.pow_le_pow_right (by decide) (by omega)))
  have a1 := mulN s.1 (denN t)
  have a2 := mulN t.1 (denN s)
  rw [Nat.add_comm] at a2
  rw [Nat.pow_succ]
  omega
theorem Sz.mul {n m : Nat} {p q : Rat} (s : Sz n p) (t : Sz m q) : Sz (n + m) (p * q) := by
  rw [← mul_eq]
  exact Sz.divInt (by have := den0 p; have := den0 q; exact Int.mul_ne_zero ‹_› ‹_›) (mulN s.1 t.1) (mulN (denN s) (denN t))
theorem num0 {q : Rat} (h : q ≠ 0) : q.num ≠ 0 := by simpa using h
theorem Sz.div {n m : Nat} {p q : Rat} (s : Sz n p) (t : Sz m q) (hq : q ≠ 0) : Sz (n + m) (p / q) := by
  rw [← div_eq]
  exact Sz.divInt (Int.mul_ne_zero (den0 p) (num0 hq)) (mulN s.1 (denN t)) (mulN (denN s) t.1)
section
variable {r : S} {p q : Rat} {n m : Nat} (s : Sz n p) (t : Sz m q) (hz : n + m ≤ 9000)
include s t hz
theorem muls : ∀ hh, bop .mul hh (.int p.num) (.int q.den) = .ok (.int (p.num * q.den)) hh ∧ bop .mul hh (.int q.num) (.int p.den) = .ok (.int (q.num * p.den)) hh ∧ bop .mul hh (.int p.den) (.int q.den) = .ok (.int (p.den * q.den)) hh ∧
    bop .mul hh (.int p.num) (.int q.num) = .ok (.int (p.num * q.num)) hh ∧ bop .mul hh (.int p.den) (.int q.num) = .ok (.int (p.den * q.num)) hh := fun hh => by
  have a := smN s.1 (by omega)
  have b := smN (denN s) (by omega)
  have c := smN t.1 (by omega)
  have d := smN (denN t) (by omega)
  exact ⟨bop_mul _ a d, bop_mul _ c b, bop_mul _ b d, bop_mul _ a c, bop_mul _ b c⟩
theorem plus_ok : callF l (F_plus r) [ratD p, ratD q] h = .ok (ratD (p + q)) h := by
  obtain ⟨a, b, c, _, _⟩ := muls s t hz h
  have e := ratio_ok (l := h.length :: l) (h := h) (r := r) (a := p.num * q.den + q.num * p.den) (Int.mul_ne_zero (den0 p) (den0 q)) (mulN (denN s) (denN t)) hz
  rw [add_eq] at e
  simp [F_plus, at20, at21, a, b, c, bop_add, e]
  exact fin_rat rfl
theorem minus_ok : callF l (F_minus r) [ratD p, ratD q] h = .ok (ratD (p - q)) h := by
  obtain ⟨a, b, c, _, _⟩ := muls s t hz h
  have e := ratio_ok (l := h.length :: l) (h := h) (r := r) (a := p.num * q.den - q.num * p.den) (Int.mul_ne_zero (den0 p) (den0 q)) (mulN (denN s) (denN t)) hz
  rw [sub_eq] at e
  simp [F_minus, at20, at21, a, b, c, bop_sub, e]
  exact fin_rat rfl
theorem times_ok : callF l (F_times r) [ratD p, ratD q] h = .ok (ratD (p * q)) h := by
  obtain ⟨a, b, c, d, _⟩ := muls s t hz h
  have e := ratio_ok (l := h.length :: l) (h := h) (r := r) (a := p.num * q.num) (Int.mul_ne_zero (den0 p) (den0 q)) (mulN (denN s) (denN t)) hz
  rw [mul_eq] at e
  simp [F_times, at20, at21, c, d, e]
  exact fin_rat rfl
theorem over_ok (hq : q ≠ 0) : callF l (F_over r) [ratD p, ratD q] h = .ok (ratD (p / q)) h := by
  obtain ⟨a, b, c, d, e⟩ := muls s t hz h
  have f := ratio_ok (l := h.length :: l) (h := h) (r := r) (a := p.num * q.den) (Int.mul_ne_zero (den0 p) (num0 hq)) (mulN (denN s) t.1) hz
  rw [div_eq] at f
  simp [F_over, at20, at21, a, e, f]
  exact fin_rat rfl
theorem is_less_ok : callF l F_is_less [ratD p, ratD q] h = .ok (.bl (decide (p < q))) h := by
  obtain ⟨a, b, c, d, e⟩ := muls s t hz h
  have k : decide (p.num * (q.den : Int) < q.num * p.den) = decide (p < q) := by rw [decide_eq_decide]; exact (Rat.lt_iff p q).symm
  simp [F_is_less, at20, at21, a, b, cop_lt, k]
  exact fin_bl rfl
end
end
end P
/-! ### the laws' own words (first kind) -/
namespace Lw
noncomputable def F_law_gcd : Fn := P.F_divisor
noncomputable def F_law_ratio : Fn := .mk 2 3 false
  (.cons (.set 2 (.call "_law_gcd" F_law_gcd (.cons (.blt .abs (.cons (.var 0) .nil)) (.cons (.blt .abs (.cons (.var 1) .nil)) .nil))))
  (.cons (.ite (.cmp .lt (.var 1) (.cst (.int 0)))
 (.cons (.set 2 (.neg (.var 2)))
  .nil)
 .nil)
  (.cons (.ret (.tup (.cons (.bop .fdiv (.var 0) (.var 2)) (.cons (.bop .fdiv (.var 1) (.var 2)) .nil))))
  .nil)))
noncomputable def F_law_plus : Fn := .mk 2 2 false
  (.cons (.ret (.call "_law_ratio" F_law_ratio (.cons (.bop .add (.bop .mul (.ix (.var 0) (.cst (.int 0))) (.ix (.var 1) (.cst (.int 1)))) (.bop .mul (.ix (.var 1) (.cst (.int 0))) (.ix (.var 0) (.cst (.int 1))))) (.cons (.bop .mul (.ix (.var 0) (.cst (.int 1))) (.ix (.var 1) (.cst (.int 1)))) .nil))))
  .nil)
noncomputable def F_law_minus : Fn := .mk 2 2 false
  (.cons (.ret (.call "_law_ratio" F_law_ratio (.cons (.bop .sub (.bop .mul (.ix (.var 0) (.cst (.int 0))) (.ix (.var 1) (.cst (.int 1)))) (.bop .mul (.ix (.var 1) (.cst (.int 0))) (.ix (.var 0) (.cst (.int 1))))) (.cons (.bop .mul (.ix (.var 0) (.cst (.int 1))) (.ix (.var 1) (.cst (.int 1)))) .nil))))
  .nil)
noncomputable def F_law_times : Fn := .mk 2 2 false
  (.cons (.ret (.call "_law_ratio" F_law_ratio (.cons (.bop .mul (.ix (.var 0) (.cst (.int 0))) (.ix (.var 1) (.cst (.int 0)))) (.cons (.bop .mul (.ix (.var 0) (.cst (.int 1))) (.ix (.var 1) (.cst (.int 1)))) .nil))))
  .nil)
noncomputable def F_law_over : Fn := .mk 2 2 false
  (.cons (.ret (.call "_law_ratio" F_law_ratio (.cons (.bop .mul (.ix (.var 0) (.cst (.int 0))) (.ix (.var 1) (.cst (.int 1)))) (.cons (.bop .mul (.ix (.var 0) (.cst (.int 1))) (.ix (.var 1) (.cst (.int 0)))) .nil))))
  .nil)
noncomputable def F_law_less : Fn := P.F_is_less
section
variable {l : List Nat} {h : Hh}
theorem ratio_ok {a b : Int} (hb : b ≠ 0) {n : Nat} (sb : b.natAbs < 2 ^ n) (hn : n ≤ 9000) : callF l F_law_ratio [.int a, .int b] h = .ok (ratD (Rat.divInt a b)) h := by
  have two : 2 ≤ sizeLine := by decide
  have gp : 0 < Int.gcd a b := Int.gcd_pos_of_ne_zero_right _ hb
  have gl : Int.gcd a b ≤ b.natAbs := Nat.le_of_dvd (by omega) (Int.gcd_dvd_natAbs_right a b)
  have sg : small ((Int.gcd a b : Nat) : Int) = true := smN (n := n) (by simp; omega) hn
  have sg' : small (-((Int.gcd a b : Nat) : Int)) = true := smN (n := n) (by simp; omega) hn
  have g0 : ((Int.gcd a b : Nat) : Int) ≠ 0 := by omega
  have g0' : -((Int.gcd a b : Nat) : Int) ≠ 0 := by omega
  have gn : Int.gcd (if a < 0 then -a else a) (if b < 0 then -b else b) = Int.gcd a b := by split <;> split <;> simp
  have eq1 : (Rat.divInt a b).num = b.sign * a / ((Int.gcd a b : Nat) : Int) := by rw [Rat.num_divInt, Int.gcd_comm]
  have eq2 : (((Rat.divInt a b).den : Nat) : Int) = (b.natAbs : Int) / ((Int.gcd a b : Nat) : Int) := by
    rw [Rat.den_divInt, if_neg hb, Int.gcd_comm]; rfl
  have da : ((Int.gcd a b : Nat) : Int) ∣ a := Int.gcd_dvd_left a b
  have db : ((Int.gcd a b : Nat) : Int) ∣ b := Int.gcd_dvd_right a b
  have dv : callF (h.length :: l) P.F_divisor [.int (if a < 0 then -a else a), .int (if b < 0 then -b else b)] h = .ok (.int (Int.gcd a b)) h := by
    rw [P.divisor_ok (by split <;> omega) (by split <;> omega), gn]
  by_cases neg : b < 0
  · have e1 : a.fdiv (-((Int.gcd a b : Nat) : Int)) = (Rat.divInt a b).num := by
      rw [Int.fdiv_eq_ediv_of_dvd (Int.neg_dvd.mpr da), Int.ediv_neg, eq1, Int.sign_eq_neg_one_of_neg neg, Int.neg_one_mul, Int.neg_ediv_of_dvd da]
    have e2 : b.fdiv (-((Int.gcd a b : Nat) : Int)) = (Rat.divInt a b).den := by
      rw [Int.fdiv_eq_ediv_of_dvd (Int.neg_dvd.mpr db), Int.ediv_neg, eq2, ← Int.neg_ediv_of_dvd db]; congr 1; omega
    simp [F_law_ratio, F_law_gcd, cop_lt, neg, blt_abs] at dv ⊢
    simp [dv, cop_lt, neg, bop_fdiv _ g0' sg', two, e1, e2]
    exact P.fin_rat rfl
  · have e1 : a.fdiv ((Int.gcd a b : Nat) : Int) = (Rat.divInt a b).num := by
      rw [P.fdiv_of (by omega), eq1, Int.sign_eq_one_of_pos (by omega)]; simp
    have e2 : b.fdiv ((Int.gcd a b : Nat) : Int) = (Rat.divInt a b).den := by
      rw [P.fdiv_of (by omega), eq2]; congr 1; omega
    simp [F_law_ratio, F_law_gcd, cop_lt, neg, blt_abs] at dv ⊢
    simp [dv, cop_lt, neg, bop_fdiv _ g0 sg, two, e1, e2]
    exact P.fin_rat rfl
section
variable {p q : Rat} {n m : Nat} (s : Sz n p) (t : Sz m q) (hz : n + m ≤ 9000)
include s t hz
theorem plus_ok : callF l F_law_plus [ratD p, ratD q] h = .ok (ratD (p + q)) h := by
  obtain ⟨a, b, c, _, _⟩ := P.muls s t hz h
  have e := ratio_ok (l := h.length :: l) (h := h) (a := p.num * q.den + q.num * p.den) (Int.mul_ne_zero (P.den0 p) (P.den0 q)) (mulN (P.denN s) (P.denN t)) hz
  rw [P.add_eq] at e
  simp [F_law_plus, P.at20, P.at21, a, b, c, bop_add, e]
  exact P.fin_rat rfl
theorem minus_ok : callF l F_law_minus [ratD p, ratD q] h = .ok (ratD (p - q)) h := by
  obtain ⟨a, b, c, _, _⟩ := P.muls s t hz h
  have e := ratio_ok (l := h.length :: l) (h := h) (a := p.num * q.den - q.num * p.den) (Int.mul_ne_zero (P.den0 p) (P.den0 q)) (mulN (P.denN s) (P.denN t)) hz
  rw [P.sub_eq] at e
  simp [F_law_minus, P.at20, P.at21, a, b, c, bop_sub, e]
  exact P.fin_rat rfl
theorem times_ok : callF l F_law_times [ratD p, ratD q] h = .ok (ratD (p * q)) h := by
  obtain ⟨a, b, c, d, _⟩ := P.muls s t hz h
  have e := ratio_ok (l := h.length :: l) (h := h) (a := p.num * q.num) (Int.mul_ne_zero (P.den0 p) (P.den0 q)) (mulN (P.denN s) (P.denN t)) hz
  rw [P.mul_eq] at e
  simp [F_law_times, P.at20, P.at21, c, d, e]
  exact P.fin_rat rfl
theorem over_ok (hq : q ≠ 0) : callF l F_law_over [ratD p, ratD q] h = .ok (ratD (p / q)) h := by
  obtain ⟨a, b, c, d, e⟩ := P.muls s t hz h
  have f := ratio_ok (l := h.length :: l) (h := h) (a := p.num * q.den) (Int.mul_ne_zero (P.den0 p) (P.num0 hq)) (mulN (P.denN s) t.1) hz
  rw [P.div_eq] at f
  simp [F_law_over, P.at20, P.at21, a, e, f]
  exact P.fin_rat rfl
theorem less_ok : callF l F_law_less [ratD p, ratD q] h = .ok (.bl (decide (p < q))) h := P.is_less_ok s t hz
end
end
end Lw
end Mp

set_option maxRecDepth 100000
/-! Mq3: repr, texts compared. -/
namespace Mp
open PySem
theorem eqv_str (a b : Str) : PyData.eqv (.str a) (.str b) = (a == b) := by simp [PyData.eqv]
theorem shaped_str {a : Str} (h : PyData.strOk a = true) : SeqAt.shaped (.str a) = true := by simp [SeqAt.shaped, PyData.canLay0, PyData.depth, h]
theorem cop_nes (h : Hh) {a b : Str} (ha : PyData.strOk a = true) (hb : PyData.strOk b = true) : cop .ne h (.str a) (.str b) = .ok (.bl (!(a == b))) h := by simp [cop, D.py, eqv_str, shaped_str ha, shaped_str hb]
theorem cop_eqs (h : Hh) {a b : Str} (ha : PyData.strOk a = true) (hb : PyData.strOk b = true) : cop .eq h (.str a) (.str b) = .ok (.bl (a == b)) h := by simp [cop, D.py, eqv_str, shaped_str ha, shaped_str hb]
theorem strOk_app {a b : Str} (ha : PyData.strOk a = true) (hb : PyData.strOk b = true) : PyData.strOk (a ++ b) = true := by
  unfold PyData.strOk at *
  show (a.cps ++ b.cps).all _ = true
  rw [Array.all_append, ha, hb]; rfl
theorem strOk_of (s : String) : PyData.strOk (Str.ofString s) = true := by
  unfold PyData.strOk
  rw [Str.ofString_eq_toList, Array.all_eq_true]
  intro i hi
  simp only [List.getElem_toArray, List.getElem_map, decide_eq_true_eq]
  have := (s.toList[i]'(by simpa using hi)).valid
  have key : ∀ c : Char, c.toNat < 1114112 := fun c => by
    rcases c.valid with q | q
    · have : c.toNat < 0xd800 := q
      omega
    · exact q.2
  exact key _
theorem strOk_join : ∀ {ts : List Str}, (∀ t ∈ ts, PyData.strOk t = true) → PyData.strOk (Str.join ", " ts) = true
  | [], _ => by decide +kernel
  | [x], h => h x (by simp)
  | x :: y :: r, h => strOk_app (strOk_app (h x (by simp)) (strOk_of ", ")) (strOk_join (ts := y :: r) fun t ht => h t (by simp at ht ⊢; right; exact ht))
theorem strOk_tuple {ts : List Str} (h : ∀ t ∈ ts, PyData.strOk t = true) : PyData.strOk (tupleText ts) = true := by
  unfold tupleText
  exact strOk_app (strOk_app (strOk_of "(") (strOk_join h)) (strOk_of _)
def ratP (q : Rat) : PyData := .tuple [.int q.num, .int q.den]
theorem py_rat (h : Hh) (q : Rat) : (ratD q).py h = some (ratP q) := by simp [ratD, D.py, D.pys, ratP]
theorem log_lt {i : Int} {n : Nat} (h : i.natAbs < 2 ^ n) (hn : 0 < n) : i.natAbs.log2 < n := by
  by_cases z : i.natAbs = 0
  · rw [z]; simpa using hn
  · exact (Nat.log2_lt z).mpr h
theorem ofStr_len (s : String) : (Str.ofString s).length = s.length := by
  rw [Str.ofString_eq_toList]
  simp [Str.length, String.length]
theorem int_shown {i : Int} {n : Nat} (h : i.natAbs < 2 ^ n) (hn : 0 < n) : (PyData.shown (.int i)).length ≤ n + 1 := by
  unfold PyData.shown
  rw [ofStr_len]
  exact int_text_length_le hn (log_lt h hn)
theorem repr_rat {h : Hh} {q : Rat} {n : Nat} (s : Sz n q) (hn : 0 < n) (hn' : n ≤ 1900) : blt .repr h [ratD q] = .ok (.str (ratP q).shown) h := by
  have s1 : (ratP q).showable = true := by
    have a := log_lt s.1 hn
    have b := log_lt (P.denN s) hn
    simp only [ratP, PyData.showable, PyData.showableAll, Bool.and_true, Bool.and_eq_true, decide_eq_true_eq]
    exact ⟨by omega, by omega⟩
  have s2 : (ratP q).shown.length ≤ sizeLine := by
    have a := int_shown s.1 hn
    have b := int_shown (P.denN s) hn
    unfold ratP PyData.shown PyData.shownAll PyData.shownAll PyData.shownAll tupleText
    rw [strLen_append, strLen_append]
    have j := join_length_add [PyData.shown (.int q.num), PyData.shown (.int q.den)] (by simp)
    rw [piled_cons, piled_cons, piled_nil] at j
    simp only [List.length_cons, List.length_nil]
    rw [sizeLine_eq]
    have e1 : (("(" : String) : Str).length = 1 := rfl
    have e2 : ((if (0 + 1 + 1 == 1) = true then ",)" else ")" : String) : Str).length = 1 := rfl
    omega
  have s3 : (ratP q).depth ≤ 64 := by simp [ratP, PyData.depth, PyData.depthAll]
  simp only [blt, b_repr, py_rat, s1, s2, s3, decide_true, Bool.and_true, if_true]
theorem strOk_rat (q : Rat) : PyData.strOk (ratP q).shown = true := by
  unfold ratP PyData.shown
  refine strOk_tuple fun t ht => ?_
  simp only [PyData.shownAll, List.mem_cons, List.not_mem_nil, or_false] at ht
  rcases ht with rfl | rfl <;> exact strOk_of _
/-- a def that tells a value -/
theorem callF_rt {l : List Nat} (f : Fn) {ds : List D} {σ : Sg} {d : D} {h h' : Hh} (hk : f.keep = false) (hn : ds.length = f.np) (hs : Nat.ble f.np f.ns = true) (hσ : ds.map some ++ List.replicate (f.ns - f.np) none = σ) (e : exL (h.length :: l) f.body σ h = .ok (.rt d) h') :
    callF l f ds h = fin false h.length d h' := by
  obtain ⟨np, ns, keep, body⟩ := f
  obtain rfl : keep = false := hk
  have hn : ds.length = np := hn
  have hs : np ≤ ns := Nat.le_of_ble_eq_true hs
  have hσ : ds.map some ++ List.replicate (ns - np) none = σ := hσ
  have e : exL (h.length :: l) body σ h = .ok (.rt d) h' := e
  rw [callF_mk, if_pos ⟨hn, hs⟩, hσ]
  simp [e]
theorem atD_mem {xs : List D} {i : Int} (h0 : 0 ≤ i) (h1 : i < xs.length) : ∃ d ∈ xs, atD xs i = some d := by
  obtain ⟨q, rfl⟩ : ∃ q : Nat, i = q := ⟨_, (Int.toNat_of_nonneg h0).symm⟩
  have hl : q < xs.length := by omega
  exact ⟨xs[q], List.getElem_mem hl, atD_nat hl⟩
end Mp

set_option maxRecDepth 100000
set_option maxHeartbeats 4000000
set_option exponentiation.threshold 10000
/-! Mq4: what can be shown; parts. -/
namespace Mp
open PySem
/-- can be shown, at most n signs, at most d deep -/
structure Rp (P : PyData) (n d : Nat) : Prop where
  sh : P.showable = true
  len : P.shown.length ≤ n
  dep : P.depth ≤ d
  ok : PyData.strOk P.shown = true
  lay : P.canLay0 = true
theorem Rp.mono {P : PyData} {n d n' d' : Nat} (r : Rp P n d) (hn : n ≤ n') (hd : d ≤ d') : Rp P n' d' := ⟨r.sh, Nat.le_trans r.len hn, Nat.le_trans r.dep hd, r.ok, r.lay⟩
theorem Rp.int {i : Int} {n : Nat} (h : i.natAbs < 2 ^ n) (hn : 0 < n) (h' : n ≤ 1920) : Rp (.int i) (n + 1) 0 := by
  refine ⟨?_, int_shown h hn, by simp [PyData.depth], by unfold PyData.shown; exact strOk_of _, by simp [PyData.canLay0]⟩
  simp only [PyData.showable, decide_eq_true_eq]
  exact Nat.lt_of_lt_of_le (log_lt h hn) h'
theorem Rp.non : Rp .none 5 0 := ⟨rfl, by decide +kernel, by simp [PyData.depth], by decide +kernel, by simp [PyData.canLay0]⟩
theorem Rp.bl (b : Bool) : Rp (.bool b) 5 0 := by cases b <;> exact ⟨rfl, by decide +kernel, by simp [PyData.depth], by decide +kernel, by simp [PyData.canLay0]⟩
theorem pdepth_int (i : Int) : PyData.depth (.int i) = 0 := by simp [PyData.depth]
theorem all_of {xs : List PyData} {n d : Nat} (h : ∀ x ∈ xs, Rp x n d) : PyData.showableAll xs = true ∧ PyData.depthAll xs ≤ d ∧ PyData.canLayAll0 xs = true ∧ piled (PyData.shownAll xs) ≤ (n + 2) * xs.length ∧ (∀ t ∈ PyData.shownAll xs, PyData.strOk t = true) ∧ (PyData.shownAll xs).length = xs.length := by
  induction xs with
  | nil => simp [PyData.showableAll, PyData.depthAll, PyData.canLayAll0, PyData.shownAll, piled_nil]
  | cons x xs ih =>
    obtain ⟨a, b, c, e, f, g⟩ := ih fun y hy => h y (by simp [hy])
    have r := h x (by simp)
    refine ⟨by simp [PyData.showableAll, r.sh, a], by have := r.dep; simp [PyData.depthAll]; omega, by simp [PyData.canLayAll0, r.lay, c], ?_, ?_, by simp [PyData.shownAll, g]⟩
    · have := r.len
      unfold PyData.shownAll
      rw [piled_cons, List.length_cons, Nat.mul_add]
      omega
    · intro t ht
      unfold PyData.shownAll at ht
      rcases List.mem_cons.mp ht with rfl | ht
      · exact r.ok
      · exact f t ht
theorem Rp.tup {xs : List PyData} {n d m : Nat} (h : ∀ x ∈ xs, Rp x n d) (hm : (n + 2) * xs.length + 3 ≤ m) : Rp (.tuple xs) m (d + 1) := by
  obtain ⟨a, b, c, e, f, g⟩ := all_of h
  refine ⟨by simp [PyData.showable, a], ?_, by simp [PyData.depth]; omega, by unfold PyData.shown; exact strOk_tuple f, by simp [PyData.canLay0, c]⟩
  unfold PyData.shown tupleText
  rw [strLen_append, strLen_append]
  have e1 : (("(" : String) : Str).length = 1 := rfl
  have e2 : ((if ((PyData.shownAll xs).length == 1) = true then ",)" else ")" : String) : Str).length ≤ 2 := by split <;> decide
  have e3 : (Str.join ", " (PyData.shownAll xs)).length ≤ piled (PyData.shownAll xs) := by
    by_cases z : PyData.shownAll xs = []
    · rw [z]; exact Nat.zero_le _
    · have := join_length_add _ z; omega
  omega
theorem strOk_from : ∀ (ts : List Str) (k : Nat) (acc : Str), PyData.strOk acc = true → (∀ t ∈ ts, PyData.strOk t = true) → PyData.strOk (textFrom k acc ts) = true
  | [], _, _, h, _ => h
  | t :: r, k, acc, h, q => strOk_from r (k + 1) _ (strOk_app (strOk_app h (strOk_of _)) (q t (by simp))) fun u hu => q u (by simp [hu])
theorem len_list (ts : List Str) : (listText ts).length ≤ piled ts + 2 := by
  unfold listText
  rw [strLen_append]
  have e1 : (("]" : String) : Str).length = 1 := rfl
  cases ts with
  | nil =>
    have : (textFrom 0 "[" []).length = 1 := rfl
    omega
  | cons t r =>
    have h := textFrom_length_pos r 1 (("[" : Str) ++ (if (0 : Nat) > 0 then ", " else "" : String) ++ t) (Nat.succ_pos 0)
    have e : ((("[" : Str) ++ (if (0 : Nat) > 0 then ", " else "" : String) ++ t)).length = 1 + t.length := by
      rw [strLen_append, strLen_append]; rfl
    have hY : (textFrom 0 "[" (t :: r)).length = (textFrom 1 (("[" : Str) ++ (if (0 : Nat) > 0 then ", " else "" : String) ++ t) r).length := rfl
    rw [hY, h, e, piled_cons]
    omega
theorem Rp.lst {xs : List PyData} {n d m : Nat} (h : ∀ x ∈ xs, Rp x n d) (hm : (n + 2) * xs.length + 3 ≤ m) : Rp (.list xs) m (d + 1) := by
  obtain ⟨a, b, c, e, f, g⟩ := all_of h
  refine ⟨by simp [PyData.showable, a], ?_, by simp [PyData.depth]; omega, ?_, by simp [PyData.canLay0, c]⟩
  · unfold PyData.shown
    have := len_list (PyData.shownAll xs)
    omega
  · unfold PyData.shown listText
    exact strOk_app (strOk_from _ _ _ (strOk_of _) f) (strOk_of _)
theorem Rp.rat {q : Rat} {n : Nat} (s : Sz n q) (hn : 0 < n) (h' : n ≤ 1920) : Rp (ratP q) (2 * n + 9) 1 := by
  refine Rp.tup (n := n + 1) (d := 0) (fun x hx => ?_) (by simp; omega)
  simp only [List.mem_cons, List.not_mem_nil, or_false] at hx
  rcases hx with rfl | rfl
  · exact Rp.int s.1 hn h'
  · exact Rp.int (P.denN s) hn h'
theorem repr_of {h : Hh} {d : D} {P : PyData} {n : Nat} (e : d.py h = some P) (r : Rp P n 60) (hn : n ≤ sizeLine) : blt .repr h [d] = .ok (.str P.shown) h := by
  have s2 : P.shown.length ≤ sizeLine := Nat.le_trans r.len hn
  have s3 : P.depth ≤ 64 := Nat.le_trans r.dep (by decide)
  simp only [blt, b_repr, e, r.sh, s2, s3, decide_true, Bool.and_true, if_true]
theorem Rp.shaped {P : PyData} {n : Nat} (r : Rp P n 60) : SeqAt.shaped P = true := by
  have s3 : P.depth ≤ 64 := Nat.le_trans r.dep (by decide)
  simp [SeqAt.shaped, r.lay, s3]
/-- one text, shown twice -/
theorem ne_self {P : PyData} {n d : Nat} (r : Rp P n d) (hh : Hh) : cop .ne hh (.str P.shown) (.str P.shown) = .ok (.bl false) hh := by rw [cop_nes hh r.ok r.ok]; simp
theorem getL_left {h g : Hh} {n : Nat} (hn : n < h.length) : getL (h ++ g) n = getL h n := by unfold getL; rw [List.getElem?_append_left hn]
theorem getL_last {h : Hh} {n : Nat} {ds : List D} (hn : h.length = n) : getL (h ++ [.lst ds]) n = some ds := by subst hn; unfold getL; simp
theorem IsTape.app {h g : Hh} {n k : Nat} (t : IsTape h n k) : IsTape (h ++ g) n k := by
  have hn := t.lt
  obtain ⟨xs, s, f, p, e, q⟩ := t
  exact ⟨xs, s, f, p, by rw [getL_left hn, e], q⟩
theorem Sz.add {n m : Nat} {p q : Rat} (s : Sz n p) (t : Sz m q) : Sz (n + m + 1) (p + q) := P.Sz.add s t
theorem Sz.sub {n m : Nat} {p q : Rat} (s : Sz n p) (t : Sz m q) : Sz (n + m + 1) (p - q) := P.Sz.sub s t
theorem Sz.mul {n m : Nat} {p q : Rat} (s : Sz n p) (t : Sz m q) : Sz (n + m) (p * q) := P.Sz.mul s t
theorem Sz.div {n m : Nat} {p q : Rat} (s : Sz n p) (t : Sz m q) (hq : q ≠ 0) : Sz (n + m) (p / q) := P.Sz.div s t hq
theorem und_rat (b : Nat) (q : Rat) : (ratD q).und b = true := by simp [ratD, D.und, D.unds]
theorem stOk_rat {l : List Nat} {n : Nat} {q : Rat} : stOk l n (ratD q) = true := by simp [stOk, und_rat]
theorem flat_rat (q : Rat) : (ratD q).flat = some (ratP q) := by simp [ratD, ratP, D.flat, D.flats]
/-! ### by nought -/
namespace P
theorem ratio_ex {l : List Nat} {h : Hh} {a : Int} : callF l (F_ratio (.raise "NoRatio" .nil)) [.int a, .int 0] h = .ex "NoRatio" [] h := by
  simp [F_ratio, cop_eq, excF, D.unds]
theorem over_ex {l : List Nat} {h : Hh} {p : Rat} {n : Nat} (s : Sz n p) (hn : n ≤ 8000) : callF l (F_over (.raise "NoRatio" .nil)) [ratD p, ratD 0] h = .ex "NoRatio" [] h := by
  have t : Sz 1 (0 : Rat) := ⟨by decide, by decide⟩
  obtain ⟨a, b, c, d, e⟩ := P.muls s t (by omega) h
  have z1 : (0 : Rat).num = 0 := rfl
  have z2 : (0 : Rat).den = 1 := rfl
  rw [z1] at d e
  simp only [z2] at a b c
  simp [z1, z2] at a b c d e
  simp [F_over, at20, at21, a, e, ratio_ex, D.unds]
end P
/-! ### the laws' parts -/
def LL : Nat := 2329089562800000000000
/-- what _law_part tells -/
structure Pt (q : Rat) : Prop where
  pos : 0 < q
  den : q.den ∣ LL
  num : q.num ≤ 1000000007
theorem Pt.sz {q : Rat} (p : Pt q) : Sz 71 q := by
  have a := p.num
  have b : 0 < q.num := Rat.intCast_pos.mp p.pos
  have c : q.den ≤ LL := Nat.le_of_dvd (by decide) p.den
  exact ⟨Nat.lt_trans (show q.num.natAbs < 2 ^ 31 by omega) (by decide), Nat.lt_of_le_of_lt c (by decide)⟩
namespace Lw
noncomputable def F_law_part : Fn := .mk 1 3 false
  (.cons (.set 1 (.lst (.cons (.cst (.int 1)) (.cons (.cst (.int 2)) (.cons (.cst (.int 3)) (.cons (.cst (.int 5)) (.cons (.bop .add (.cst (.int 1)) (.call "_law_draw" F_law_draw (.cons (.var 0) (.cons (.cst (.int 40)) .nil)))) (.cons (.bop .add (.cst (.int 1)) (.call "_law_draw" F_law_draw (.cons (.var 0) (.cons (.cst (.int 60000)) .nil)))) (.cons (.bop .add (.bop .pow (.cst (.int 10)) (.cst (.int 9))) (.cst (.int 7))) .nil)))))))))
  (.cons (.set 2 (.lst (.cons (.cst (.int 1)) (.cons (.cst (.int 1)) (.cons (.cst (.int 1)) (.cons (.cst (.int 2)) (.cons (.cst (.int 3)) (.cons (.cst (.int 6)) (.cons (.bop .add (.cst (.int 1)) (.call "_law_draw" F_law_draw (.cons (.var 0) (.cons (.cst (.int 30)) .nil)))) (.cons (.bop .pow (.cst (.int 10)) (.cst (.int 9))) .nil))))))))))
  (.cons (.ret (.call "_law_ratio" F_law_ratio (.cons (.ix (.var 1) (.call "_law_draw" F_law_draw (.cons (.var 0) (.cons (.cst (.int 7)) .nil)))) (.cons (.ix (.var 2) (.call "_law_draw" F_law_draw (.cons (.var 0) (.cons (.cst (.int 8)) .nil)))) .nil))))
  .nil)))
theorem divInt_pos {a b : Int} (h : 0 < a) (hb : 0 < b) : 0 < Rat.divInt a b := by
  have h1 : 0 ≤ Rat.divInt a b := Rat.divInt_nonneg (by omega) (by omega)
  have h2 : Rat.divInt a b ≠ 0 := by
    intro e
    have e' : Rat.divInt a b = Rat.divInt 0 1 := by rw [e, Rat.zero_divInt]
    rw [Rat.divInt_eq_divInt_iff (by omega) (by omega)] at e'
    omega
  exact Rat.lt_of_le_of_ne h1 (Ne.symm h2)
theorem pt_divInt {a b : Int} (ha : 0 < a) (ha' : a ≤ 1000000007) (hb : 0 < b) (hd : b.natAbs ∣ LL) : Pt (Rat.divInt a b) := by
  refine ⟨?_, ?_, ?_⟩
  · exact divInt_pos ha hb
  · refine Nat.dvd_trans ?_ hd
    rw [Rat.den_divInt, if_neg (by omega)]
    exact Nat.div_dvd_of_dvd (Int.gcd_dvd_natAbs_left _ _)
  · have := divInt_num_le (a := a) (b := b) (by omega)
    omega
theorem part_ok {l : List Nat} {h : Hh} {n k : Nat} (t : IsTape h n k) (hk : k + 5 < 2 ^ 40) : ∃ (q : Rat) (ds : List D), Pt q ∧ callF l F_law_part [.ref n] h = .ok (ratD q) (h.set n (.lst ds)) ∧ IsTape (h.set n (.lst ds)) n (k + 5) := by
  obtain ⟨v1, d1, a1, b1, e1, t1⟩ := draw_ok (l := h.length :: l) t (by omega) (m := 40) (by decide) (by decide)
  obtain ⟨v2, d2, a2, b2, e2, t2⟩ := draw_ok (l := h.length :: l) t1 (by omega) (m := 60000) (by decide) (by decide)
  rw [List.set_set] at e2 t2
  obtain ⟨v3, d3, a3, b3, e3, t3⟩ := draw_ok (l := h.length :: l) t2 (by omega) (m := 30) (by decide) (by decide)
  rw [List.set_set] at e3 t3
  obtain ⟨v4, d4, a4, b4, e4, t4⟩ := draw_ok (l := h.length :: l) t3 (by omega) (m := 7) (by decide) (by decide)
  rw [List.set_set] at e4 t4
  obtain ⟨v5, d5, a5, b5, e5, t5⟩ := draw_ok (l := h.length :: l) t4 (by omega) (m := 8) (by decide) (by decide)
  rw [List.set_set] at e5 t5
  obtain ⟨d, hd, ix⟩ := atD_mem (xs := [.int 1, .int 2, .int 3, .int 5, .int (1 + v1), .int (1 + v2), .int (10 ^ 9 + 7)]) a4 b4
  obtain ⟨e, he, iy⟩ := atD_mem (xs := [.int 1, .int 1, .int 1, .int 2, .int 3, .int 6, .int (1 + v3), .int (10 ^ 9)]) a5 b5
  have key : ∃ w, d = .int w ∧ 0 < w ∧ w ≤ 1000000007 := by
    simp only [List.mem_cons, List.not_mem_nil, or_false] at hd
    rcases hd with rfl | rfl | rfl | rfl | rfl | rfl | rfl <;> exact ⟨_, rfl, by omega, by omega⟩
  have small30 : ∀ b : Nat, 0 < b → b ≤ 30 → b ∣ LL := by
    intro b h0 h1
    have : ∀ c ∈ List.range 31, 0 < c → c ∣ LL := by decide +kernel
    exact this b (by simp; omega) h0
  have key' : ∃ w, e = .int w ∧ 0 < w ∧ w.natAbs ∣ LL := by
    simp only [List.mem_cons, List.not_mem_nil, or_false] at he
    rcases he with rfl | rfl | rfl | rfl | rfl | rfl | rfl | rfl
    · exact ⟨_, rfl, by omega, by decide +kernel⟩
    · exact ⟨_, rfl, by omega, by decide +kernel⟩
    · exact ⟨_, rfl, by omega, by decide +kernel⟩
    · exact ⟨_, rfl, by omega, by decide +kernel⟩
    · exact ⟨_, rfl, by omega, by decide +kernel⟩
    · exact ⟨_, rfl, by omega, by decide +kernel⟩
    · exact ⟨_, rfl, by omega, small30 _ (by omega) (by omega)⟩
    · exact ⟨_, rfl, by omega, by decide +kernel⟩
  obtain ⟨a, rfl, a0, a9⟩ := key
  obtain ⟨b, rfl, b0, b9⟩ := key'
  have iv := fun hh => ixV_lst (h := hh) ix
  have iw := fun hh => ixV_lst (h := hh) iy
  have seven : 7 ≤ sizeLine := by decide
  have eight : 8 ≤ sizeLine := by decide
  have pw : ∀ hh, bop .pow hh (.int 10) (.int 9) = .ok (.int (10 ^ 9)) hh := fun hh => by simp [bop]
  have rr := ratio_ok (l := h.length :: l) (h := h.set n (.lst d5)) (a := a) (b := b) (n := 90) (by omega) (Nat.lt_of_le_of_lt (Nat.le_of_dvd (by decide) b9) (by decide)) (by decide)
  refine ⟨Rat.divInt a b, d5, pt_divInt a0 a9 b0 b9, ?_, t5⟩
  have body : exL (h.length :: l) (Fn.body F_law_part) [some (.ref n), none, none] h = .ok (.rt (ratD (Rat.divInt a b))) (h.set n (.lst d5)) := by
    simp only [F_law_part, Fn.body, exL_cons, exL_nil, exS_set, exS_ret, evE_lst, evL_cons, evL_nil, evE_cst, evE_bop, evE_call, evE_var, evE_ix, R.bind_ok, stE_ok, varV, List.getElem?_cons_zero, List.getElem?_cons_succ, pw, bop_add, e1, e2, e3, e4, e5,
      List.length_cons, List.length_nil, seven, eight, if_true, seqFl, List.set_cons_zero, List.set_cons_succ, iv, iw, rr]
  rw [callF_rt (σ := [some (.ref n), none, none]) F_law_part rfl rfl rfl rfl body, P.fin_rat set_len]
end Lw
end Mp

set_option maxRecDepth 100000
set_option maxHeartbeats 4000000
set_option exponentiation.threshold 10000
/-! Mq5: loops by invariants, lists of ratios. -/
namespace Mp
open PySem
/-! ### loops -/
theorem forE_cons {l : List Nat} {tg kill : List Nat} {body : SL} {d : D} {ds : List D} {σ σ' : Sg} {h h' : Hh} (e : turnK tg kill (exL l body) d σ h = .ok (.nx σ') h') : forE l tg body kill [] (d :: ds) σ h = forE l tg body kill [] ds σ' h' := by
  unfold forE
  exact for_cons e
theorem forE_nil {l : List Nat} {tg kill : List Nat} {body : SL} {σ : Sg} {h : Hh} : forE l tg body kill [] [] σ h = .ok (.nx σ) h := by unfold forE; exact for_nil
/-- what holds between the turns: k turns done -/
theorem forE_inv {l : List Nat} {tg kill : List Nat} {body : SL} (Inv : Nat → Sg → Hh → Prop) : ∀ (xs : List D) (k : Nat) (σ : Sg) (h : Hh),
    (∀ j d σ h, d ∈ xs → k ≤ j → j < k + xs.length → Inv j σ h → ∃ σ' h', turnK tg kill (exL l body) d σ h = .ok (.nx σ') h' ∧ Inv (j + 1) σ' h') → Inv k σ h →
    ∃ σ' h', forE l tg body kill [] xs σ h = .ok (.nx σ') h' ∧ Inv (k + xs.length) σ' h'
  | [], k, σ, h, _, i => ⟨σ, h, forE_nil, i⟩
  | d :: ds, k, σ, h, s, i => by
    obtain ⟨σ1, h1, e1, i1⟩ := s k d σ h (by simp) (Nat.le_refl _) (by simp) i
    obtain ⟨σ2, h2, e2, i2⟩ := forE_inv Inv ds (k + 1) σ1 h1 (fun j d σ h m a b c => s j d σ h (by simp [m]) (by omega) (by simp; omega) c) i1
    exact ⟨σ2, h2, by rw [forE_cons e1, e2], by rw [List.length_cons, Nat.add_comm ds.length, ← Nat.add_assoc]; exact i2⟩
/-- over a tape that lies at n, to a state that stays -/
theorem forE_tape {l : List Nat} {tg kill : List Nat} {body : SL} {n c : Nat} {σ : Sg} (step : ∀ d h k, IsTape h n k → k + c < 2 ^ 40 → ∃ h', turnK tg kill (exL l body) d σ h = .ok (.nx σ) h' ∧ IsTape h' n (k + c)) {xs : List D} {h : Hh} {k : Nat} (t : IsTape h n k) (hk : k + c * xs.length < 2 ^ 40) :
    ∃ h', forE l tg body kill [] xs σ h = .ok (.nx σ) h' ∧ IsTape h' n (k + c * xs.length) := by
  obtain ⟨σ', h', e, rfl, i⟩ := forE_inv (l := l) (tg := tg) (kill := kill) (body := body) (fun j τ g => τ = σ ∧ IsTape g n (k + c * j)) xs 0 σ h (fun j d τ g _ _ hj ⟨e, i⟩ => by
    subst e
    have : c * j + c ≤ c * xs.length := by
      have := Nat.mul_le_mul_left c (show j + 1 ≤ xs.length by omega)
      rwa [Nat.mul_add, Nat.mul_one] at this
    obtain ⟨g', e1, i1⟩ := step d g _ i (by omega)
    exact ⟨_, g', e1, rfl, by rw [Nat.mul_add, Nat.mul_one, ← Nat.add_assoc]; exact i1⟩) ⟨rfl, t⟩
  rw [Nat.zero_add] at i
  exact ⟨h', e, i⟩
theorem rg_range' (a : Int) (m : Nat) : rg a (a + m) = (List.range' 0 m).map fun (i : Nat) => D.int (a + (i : Int)) := by
  unfold rg
  rw [List.range_eq_range', show (a + (m : Int) - a).toNat = m by omega]
/-- over a range, by what holds ahead of each -/
theorem forE_rg {l : List Nat} {tg kill : List Nat} {body : SL} (a : Int) (Inv : Nat → Sg → Hh → Prop) (m : Nat) (step : ∀ (j : Nat) σ h, j < m → Inv j σ h → ∃ σ' h', turnK tg kill (exL l body) (.int (a + (j : Int))) σ h = .ok (.nx σ') h' ∧ Inv (j + 1) σ' h') {σ : Sg} {h : Hh} (i : Inv 0 σ h) :
    ∃ σ' h', forE l tg body kill [] (rg a (a + m)) σ h = .ok (.nx σ') h' ∧ Inv m σ' h' := by
  have key : ∀ (c s : Nat) σ h, s + c = m → Inv s σ h → ∃ σ' h', forE l tg body kill [] ((List.range' s c).map fun (i : Nat) => D.int (a + (i : Int))) σ h = .ok (.nx σ') h' ∧ Inv m σ' h' := by
    intro c
    induction c with
    | zero =>
      intro s σ h e i
      obtain rfl : s = m := by omega
      exact ⟨σ, h, forE_nil, i⟩
    | succ c ih =>
      intro s σ h e i
      obtain ⟨σ1, h1, e1, i1⟩ := step s σ h (by omega) i
      obtain ⟨σ2, h2, e2, i2⟩ := ih (s + 1) σ1 h1 (by omega) i1
      exact ⟨σ2, h2, by rw [List.range'_succ, List.map_cons, forE_cons e1, e2], i2⟩
  rw [rg_range']
  exact key m 0 σ h (by omega) i
theorem forE_rg0 {l : List Nat} {tg kill : List Nat} {body : SL} (Inv : Nat → Sg → Hh → Prop) (m : Nat) (step : ∀ (j : Nat) σ h, j < m → Inv j σ h → ∃ σ' h', turnK tg kill (exL l body) (.int (j : Int)) σ h = .ok (.nx σ') h' ∧ Inv (j + 1) σ' h') {σ : Sg} {h : Hh} (i : Inv 0 σ h) :
    ∃ σ' h', forE l tg body kill [] (rg 0 m) σ h = .ok (.nx σ') h' ∧ Inv m σ' h' := by
  have := forE_rg (l := l) (tg := tg) (kill := kill) (body := body) 0 Inv m (fun j σ h a b => by rw [Int.zero_add]; exact step j σ h a b) i
  rwa [Int.zero_add] at this
theorem atD_some {α : Type} {xs : List α} {j : Nat} {d : α} (e : xs[j]? = some d) : atD xs (j : Int) = some d := by
  obtain ⟨h1, h2⟩ := List.getElem?_eq_some_iff.mp e
  rw [atD_nat h1, h2]
/-! ### a heap with something new behind it -/
theorem set_left {h g : Hh} {n : Nat} {o : Ob} (hn : n < h.length) : (h ++ g).set n o = h.set n o ++ g := List.set_append_left _ _ hn
theorem set_last {h : Hh} {m : Nat} {o o' : Ob} (hm : h.length = m) : (h ++ [o]).set m o' = h ++ [o'] := by
  subst hm
  rw [List.set_append_right _ _ (Nat.le_refl _)]
  simp
theorem IsTape.left {h g : Hh} {n k : Nat} (t : IsTape (h ++ g) n k) (hn : n < h.length) : IsTape h n k := by
  obtain ⟨xs, s, f, p, e, q⟩ := t
  exact ⟨xs, s, f, p, by rw [← getL_left hn, e], q⟩
theorem app_ok {l : List Nat} {h : Hh} {m : Nat} {ys : List D} {d : D} (g : getL h m = some ys) (s : stOk l m d = true) (hl : ys.length < 1000000) : bm .append l h (.ref m) [d] = .ok .non (h.set m (.lst (ys ++ [d]))) := by
  have : ys.length < sizeLine := Nat.lt_trans hl (by decide)
  simp [bm, m_append, g, s, this]
theorem recv_ref {h : Hh} {m : Nat} {ys : List D} (g : getL h m = some ys) : recv "list" h (.ref m) = true := by simp [recv, g]
theorem fin_last {h : Hh} {m : Nat} {ys : List D} (hm : h.length = m) (u : D.unds m ys = true) : fin false m (.ref m) (h ++ [.lst ys]) = .ok (.lst ys) h := by
  have g : getL (h ++ [.lst ys]) m = some ys := getL_last hm
  have t : List.take m (h ++ [Ob.lst ys]) = h := by
    rw [List.take_append_of_le_length (by omega), List.take_of_length_le (by omega)]
  simp [fin, D.und, g, u, t]
/-- a fold -/
theorem forE_fold {α β : Type} {l : List Nat} {tg kill : List Nat} {body : SL} {h : Hh} (enc : α → D) (st : β → Sg) (f : β → α → β) (Inv : β → List α → Prop)
    (step : ∀ b x xs, Inv b (x :: xs) → turnK tg kill (exL l body) (enc x) (st b) h = .ok (.nx (st (f b x))) h ∧ Inv (f b x) xs) : ∀ (xs : List α) (b : β), Inv b xs → forE l tg body kill [] (xs.map enc) (st b) h = .ok (.nx (st (xs.foldl f b))) h ∧ Inv (xs.foldl f b) []
  | [], b, i => ⟨forE_nil, i⟩
  | x :: xs, b, i => by
    obtain ⟨e, i1⟩ := step b x xs i
    rw [List.map_cons, forE_cons e]
    exact forE_fold enc st f Inv step xs _ i1
/-- a comprehension, item by item -/
theorem compE_map {α : Type} {l : List Nat} {tg : List Nat} {e : E} {σ : Sg} {h : Hh} (enc : α → D) (g : α → D) : ∀ (xs : List α), (∀ x ∈ xs, itemK tg σ true (evE l .no) (evE l e) (enc x) h = .ok (some (g x)) h) → compE l e tg .no [] (xs.map enc) σ h = .ok (xs.map g) h
  | [], _ => by simp [compE, compL, ifW, watch_nil]
  | x :: xs, s => by
    have ih := compE_map (σ := σ) enc g xs fun y hy => s y (by simp [hy])
    have e1 := s x (by simp)
    unfold compE at ih ⊢
    simp only [isNo] at ih ⊢
    simp [compL, ifW, watch_nil, e1, ih]
theorem compE_filter {α : Type} {l : List Nat} {tg : List Nat} {e c : E} {σ : Sg} {h : Hh} (enc : α → D) (g : α → D) (p : α → Bool) (nc : isNo c = false) : ∀ (xs : List α), (∀ x ∈ xs, itemK tg σ false (evE l c) (evE l e) (enc x) h = .ok (if p x then some (g x) else none) h) → compE l e tg c [] (xs.map enc) σ h = .ok ((xs.filter p).map g) h
  | [], _ => by simp [compE, compL, ifW, watch_nil]
  | x :: xs, s => by
    have ih := compE_filter (σ := σ) enc g p nc xs fun y hy => s y (by simp [hy])
    have e1 := s x (by simp)
    unfold compE at ih ⊢
    rw [nc] at ih ⊢
    by_cases q : p x <;> simp [q] at e1 <;> simp [compL, ifW, watch_nil, e1, ih, q]
/-- a built list, told -/
theorem fin_built {h : Hh} {n m : Nat} {ds ys : List D} (hm : h.length = m) (hn : n < h.length) (u : D.unds m ys = true) : fin false m (.ref m) (((h ++ [Ob.lst []]).set n (.lst ds)).set m (.lst ys)) = .ok (.lst ys) (h.set n (.lst ds)) := by
  subst hm
  have e : ((h ++ [Ob.lst []]).set n (.lst ds)).set h.length (.lst ys) = h.set n (.lst ds) ++ [.lst ys] := by
    rw [List.set_append_left _ _ hn, List.set_append_right _ _ (by simp)]
    simp
  rw [e]
  have g : getL (h.set n (.lst ds) ++ [.lst ys]) h.length = some ys := getL_last (by simp)
  have t : List.take h.length (h.set n (.lst ds) ++ [Ob.lst ys]) = h.set n (.lst ds) := by
    rw [List.take_append_of_le_length (by simp), List.take_of_length_le (by simp)]
  simp [fin, D.und, g, u, t]
/-! ### lists of ratios -/
def ratL (qs : List Rat) : List D := qs.map ratD
theorem pys_rats (h : Hh) : ∀ qs : List Rat, D.pys h (ratL qs) = some (qs.map ratP)
  | [] => rfl
  | q :: qs => by
    have ih := pys_rats h qs
    unfold ratL at ih ⊢
    simp [D.pys, py_rat, ih]
theorem unds_rats (b : Nat) : ∀ qs : List Rat, D.unds b (ratL qs) = true
  | [] => rfl
  | q :: qs => by
    have ih := unds_rats b qs
    unfold ratL at ih ⊢
    simp [D.unds, und_rat, ih]
theorem eqv_rat (p q : Rat) : PyData.eqv (ratP p) (ratP q) = decide (p = q) := by
  have e : PyData.eqv (ratP p) (ratP q) = ((p.num == q.num) && (((p.den : Nat) : Int) == q.den)) := by simp [ratP, PyData.eqv, PyData.eqvAll]
  rw [e]
  by_cases h : p = q
  · subst h; simp
  · rw [decide_eq_false h]
    by_cases h1 : p.num = q.num
    · have h2 : p.den ≠ q.den := fun h2 => h (Rat.ext h1 h2)
      have h3 : ¬ ((p.den : Nat) : Int) = q.den := fun e => h2 (by omega)
      simp [h3]
    · simp [h1]
theorem lay_rat (q : Rat) : (ratP q).canLay0 = true := by simp [ratP, PyData.canLay0, PyData.canLayAll0]
theorem lay_rats : ∀ qs : List Rat, PyData.canLayAll0 (qs.map ratP) = true
  | [] => rfl
  | q :: qs => by simp [PyData.canLayAll0, lay_rat, lay_rats qs]
theorem dep_rat (q : Rat) : (ratP q).depth = 1 := by simp [ratP, PyData.depth, PyData.depthAll]
theorem dep_rats : ∀ qs : List Rat, PyData.depthAll (qs.map ratP) ≤ 1
  | [] => by simp [PyData.depthAll]
  | q :: qs => by have := dep_rats qs; simp [PyData.depthAll, dep_rat]; omega
theorem shp_rat (q : Rat) : SeqAt.shaped (ratP q) = true := by simp [SeqAt.shaped, lay_rat, dep_rat]
theorem shp_lrats (qs : List Rat) : SeqAt.shaped (.list (qs.map ratP)) = true := by
  have := dep_rats qs
  simp [SeqAt.shaped, PyData.canLay0, lay_rats, PyData.depth]; omega
theorem shp_trats (qs : List Rat) : SeqAt.shaped (.tuple (qs.map ratP)) = true := by
  have := dep_rats qs
  simp [SeqAt.shaped, PyData.canLay0, lay_rats, PyData.depth]; omega
theorem rgV_ok {i j : Int} {h : Hh} (e : rgOk i j = true) : rgV (.int i) (.int j) h = .ok (rg i j, []) h := by
  show (if rgOk i j = true then R.ok (rg i j, []) h else .bad) = _
  rw [if_pos e]
theorem rgOk_sm {i j : Int} (h0 : -1000000 ≤ i) (h1 : i ≤ 1000000) (h2 : -1000000 ≤ j) (h3 : j ≤ 1000000) : rgOk i j = true := by
  unfold rgOk
  simp only [Bool.and_eq_true, Nat.ble_eq]
  omega
theorem rgOk_nat {k : Nat} (h : k ≤ 1000000) : rgOk 0 k = true := rgOk_sm (by decide) (by decide) (by omega) (by omega)
theorem exS_forRg {l : List Nat} {tg kill : List Nat} {body : SL} {σ : Sg} {i : Nat} {kd : D} {xs : List D} {h : Hh} {r : R Fl} (hv : varV σ i h = .ok kd h) (rv : rgV (.int 0) kd h = .ok (xs, []) h) (e : forE l tg body kill [] xs (killAll σ kill) h = r) : exS l (.for_ tg (.rg1 (.var i)) body kill) σ h = r := by
  rw [exS_for, evI_rg1, evE_var, hv, R.bind_ok, rv, stE_ok]
  exact e
/-- the same, compared -/
theorem ne_same {h : Hh} {d d' : D} {P : PyData} (e : d.py h = some P) (e' : d'.py h = some P) (s : SeqAt.shaped P = true) : cop .ne h d d' = .ok (.bl false) h := by
  simp [cop, e, e', s, SeqAt.eqv_refl P (SeqAt.canLay_of_shaped s)]
theorem eq_same {h : Hh} {d d' : D} {P : PyData} (e : d.py h = some P) (e' : d'.py h = some P) (s : SeqAt.shaped P = true) : cop .eq h d d' = .ok (.bl true) h := by
  simp [cop, e, e', s, SeqAt.eqv_refl P (SeqAt.canLay_of_shaped s)]
theorem py_lrats (h : Hh) (qs : List Rat) : (D.lst (ratL qs)).py h = some (.list (qs.map ratP)) := by simp [D.py, pys_rats]
theorem py_trats (h : Hh) (qs : List Rat) : (D.tup (ratL qs)).py h = some (.tuple (qs.map ratP)) := by simp [D.py, pys_rats]
theorem any_rat (m : Rat) (qs : List Rat) : ((qs.map ratP).any fun z => PyData.eqv z (ratP m)) = decide (m ∈ qs) := by
  induction qs with
  | nil => simp
  | cons q qs ih =>
    rw [List.map_cons, List.any_cons, ih, eqv_rat]
    by_cases h : q = m
    · simp [h]
    · have : ¬ m = q := fun e => h e.symm
      simp [h, this]
theorem inn_rats {h : Hh} {m : Rat} {qs : List Rat} : cop .inn h (ratD m) (.lst (ratL qs)) = .ok (.bl (decide (m ∈ qs))) h := by
  simp [cop, py_rat, seqOf, listOf, lstOf, pys_rats, shp_rat, shp_lrats]
  simpa using any_rat m qs
theorem nin_rats {h : Hh} {m : Rat} {qs : List Rat} : cop .nin h (ratD m) (.lst (ratL qs)) = .ok (.bl (!decide (m ∈ qs))) h := by
  have := any_rat m qs
  simp only [cop, py_rat, seqOf, listOf, lstOf, Option.bind_some, pys_rats, shp_rat, shp_lrats, this, Bool.and_self, if_true]
namespace P
noncomputable def F_raised_b1 : SL :=
  (.cons (.set 2 (.tup (.cons (.bop .mul (.ix (.var 2) (.cst (.int 0))) (.ix (.var 0) (.cst (.int 0)))) (.cons (.bop .mul (.ix (.var 2) (.cst (.int 1))) (.ix (.var 0) (.cst (.int 1)))) .nil))))
  .nil)
noncomputable def F_raised : Fn := .mk 2 4 false
  (.cons (.set 2 (.glob "ONE" (.tup [(.int 1), (.int 1)])))
  (.cons (.for_ [3] (.rg1 (.var 1)) F_raised_b1 [3])
  (.cons (.ret (.var 2))
  .nil)))
noncomputable def F_total_b1 (r : S) : SL :=
  (.cons (.set 1 (.call "plus" (F_plus r) (.cons (.var 1) (.cons (.var 2) .nil))))
  .nil)
noncomputable def F_total (r : S) : Fn := .mk 1 3 false
  (.cons (.set 1 (.glob "NOUGHT" (.tup [(.int 0), (.int 1)])))
  (.cons (.for_ [2] (.seq (.var 0)) (F_total_b1 r) [2])
  (.cons (.ret (.var 1))
  .nil)))
noncomputable def F_greatest_b1 : SL :=
  (.cons (.ite (.call "is_less" F_is_less (.cons (.var 1) (.cons (.var 2) .nil)))
 (.cons (.set 1 (.var 2))
  .nil)
 .nil)
  .nil)
noncomputable def F_greatest : Fn := .mk 1 3 false
  (.cons (.set 1 (.ix (.var 0) (.cst (.int 0))))
  (.cons (.for_ [2] (.seq (.var 0)) F_greatest_b1 [2])
  (.cons (.ret (.var 1))
  .nil)))
theorem one_is : D.tup [(.int 1), (.int 1)] = ratD 1 := rfl
theorem nought_is : D.tup [(.int 0), (.int 1)] = ratD 0 := rfl
theorem Sz.pow {n : Nat} {q : Rat} (s : Sz n q) (hn : 0 < n) : ∀ j : Nat, Sz (n * j + 1) (q ^ j)
  | 0 => by rw [Rat.pow_zero]; exact ⟨show (1 : Int).natAbs < 2 ^ (n * 0 + 1) by rw [Nat.mul_zero]; decide, show 1 < 2 ^ (n * 0 + 1) by rw [Nat.mul_zero]; decide⟩
  | j + 1 => by
    rw [Rat.pow_succ]
    exact ((Sz.pow s hn j).mul s).mono (by rw [Nat.mul_add]; omega)
section
variable {l : List Nat} {h : Hh} {q : Rat}
theorem rg_map (a b : Int) : rg a b = (List.range (b - a).toNat).map fun (i : Nat) => D.int (a + (i : Int)) := rfl
theorem raised_end {a b : D} (a2 : exS (h.length :: l) (.for_ [3] (.rg1 (.var 1)) F_raised_b1 [3]) [some a, some b, some (.tup [(.int 1), (.int 1)]), none] h = .ok (.nx [some a, some b, some (ratD q), none]) h) : callF l F_raised [a, b] h = .ok (ratD q) h := by
  have body : exL (h.length :: l) (Fn.body F_raised) [some a, some b, none, none] h = .ok (.rt (ratD q)) h := by
    simp only [F_raised, Fn.body, exL_cons, exL_nil, exS_set, evE_glob, stE_ok, R.bind_ok, seqFl, List.set_cons_succ, List.set_cons_zero, a2, exS_ret, evE_var, varV, List.getElem?_cons_succ, List.getElem?_cons_zero]
  rw [callF_rt (σ := [some a, some b, none, none]) F_raised rfl rfl rfl rfl body, fin_rat rfl]
theorem raised_ok {n : Nat} (s : Sz n q) (hn : 0 < n) {k : Nat} (hk : n * k ≤ 8000) (hk2 : k ≤ 1000) : callF l F_raised [ratD q, .int k] h = .ok (ratD (q ^ k)) h := by
  have step : ∀ (b : Nat) (x : Nat) (xs : List Nat), b + (x :: xs).length = k → turnK [3] [3] (exL (h.length :: l) F_raised_b1) (.int (0 + (x : Nat))) [some (ratD q), some (.int k), some (ratD (q ^ b)), none] h = .ok (.nx [some (ratD q), some (.int k), some (ratD (q ^ (b + 1))), none]) h ∧ (b + 1) + xs.length = k := by
    intro b x xs hb
    simp only [List.length_cons] at hb
    refine ⟨?_, by omega⟩
    have two : 2 ≤ sizeLine := by decide
    have sb := Sz.pow s hn b
    have hbk : n * b ≤ n * k := Nat.mul_le_mul_left _ (by omega)
    have hn' : n ≤ n * k := Nat.le_mul_of_pos_right _ (by omega)
    have m1 : ∀ hh, bop .mul hh (.int (q ^ b).num) (.int q.num) = .ok (.int ((q ^ (b + 1)).num)) hh := fun hh => by
      rw [bop_mul _ (smN sb.1 (by omega)) (smN s.1 (by omega))]
      rw [Rat.num_pow, Rat.num_pow, Int.pow_succ]
    have m2 : ∀ hh, bop .mul hh (.int (q ^ b).den) (.int q.den) = .ok (.int ((q ^ (b + 1)).den)) hh := fun hh => by
      rw [bop_mul _ (smN (denN sb) (by omega)) (smN (denN s) (by omega))]
      rw [Rat.den_pow, Rat.den_pow, Nat.pow_succ]
      simp
    clear sb
    generalize q ^ b = p at m1 m2 ⊢
    generalize q ^ (b + 1) = p' at m1 m2 ⊢
    simp [turnK, F_raised_b1, at20, at21, m1, m2, two]
    rfl
  have e := (forE_fold (l := h.length :: l) (tg := [3]) (kill := [3]) (body := F_raised_b1) (h := h) (fun (i : Nat) => D.int (0 + (i : Int))) (fun b => [some (ratD q), some (.int k), some (ratD (q ^ b)), none]) (fun b _ => b + 1) (fun b xs => b + xs.length = k) step (List.range k) 0 (by simp)).1
  have fl : ∀ (xs : List Nat) (b : Nat), xs.foldl (fun b _ => b + 1) b = b + xs.length := by
    intro xs
    induction xs with
    | nil => intro b; rfl
    | cons x xs ih => intro b; simp [ih]; omega
  rw [fl, List.length_range, Nat.zero_add, Rat.pow_zero] at e
  simp only [Int.zero_add] at e
  have ok : rgOk 0 k = true := rgOk_nat (by omega)
  have rge : rg 0 (k : Int) = (List.range k).map fun (i : Nat) => D.int (i : Int) := by rw [rg_map]; simp
  have two : 2 ≤ sizeLine := by decide
  have one : ratD 1 = D.tup [(.int 1), (.int 1)] := by unfold ratD; rfl
  rw [one] at e
  rw [← rge] at e
  have a2 := exS_forRg (l := h.length :: l) (tg := [3]) (kill := [3]) (body := F_raised_b1) (σ := [some (ratD q), some (.int k), some (.tup [(.int 1), (.int 1)]), none]) (i := 1) (h := h) rfl (rgV_ok ok) e
  exact raised_end a2
theorem Sz.sumN {m : Nat} : ∀ (qs : List Rat) (b : Rat) (j : Nat), Sz j b → (∀ q ∈ qs, Sz m q) → Sz (j + (m + 1) * qs.length) (qs.foldl (· + ·) b)
  | [], b, j, s, _ => s
  | q :: qs, b, j, s, t => by
    have := Sz.sumN (m := m) qs (b + q) (j + m + 1) (s.add (t q (by simp))) fun r hr => t r (by simp [hr])
    rw [List.foldl_cons, List.length_cons, Nat.mul_add]
    exact this.mono (by omega)
theorem total_ok {r : S} {d : D} {qs : List Rat} {m : Nat} (hd : srcOf h d = some (ratL qs, [])) (t : ∀ q ∈ qs, Sz m q) (hm : (m + 1) * qs.length + 2 + m ≤ 9000) : callF l (F_total r) [d] h = .ok (ratD (qs.foldl (· + ·) 0)) h := by
  have step : ∀ (b : Rat) (x : Rat) (xs : List Rat), (∃ j, Sz j b ∧ (∀ q ∈ x :: xs, Sz m q) ∧ j + (m + 1) * (x :: xs).length + m ≤ 9000) → turnK [2] [2] (exL (h.length :: l) (F_total_b1 r)) (ratD x) [some d, some (ratD b), none] h = .ok (.nx [some d, some (ratD (b + x)), none]) h ∧
      (∃ j, Sz j (b + x) ∧ (∀ q ∈ xs, Sz m q) ∧ j + (m + 1) * xs.length + m ≤ 9000) := by
    rintro b x xs ⟨j, sj, tt, hj⟩
    have sx := tt x (by simp)
    rw [List.length_cons, Nat.mul_add] at hj
    refine ⟨?_, j + m + 1, sj.add sx, fun q hq => tt q (by simp [hq]), by omega⟩
    have e := fun hh => plus_ok (l := h.length :: l) (h := hh) (r := r) sj sx (by omega)
    simp [turnK, F_total_b1, e]
  have e := (forE_fold (l := h.length :: l) (tg := [2]) (kill := [2]) (body := F_total_b1 r) (h := h) ratD (fun b => [some d, some (ratD b), none]) (· + ·) (fun b xs => ∃ j, Sz j b ∧ (∀ q ∈ xs, Sz m q) ∧ j + (m + 1) * xs.length + m ≤ 9000) step qs 0 ⟨1, ⟨by decide, by decide⟩, t, by omega⟩).1
  unfold ratL at hd
  simp [F_total, nought_is, hd, e]
  exact fin_rat rfl
/-- the first of the greatest -/
def great (b : Rat) (qs : List Rat) : Rat := qs.foldl (fun b x => if b < x then x else b) b
theorem great_in (b : Rat) : ∀ qs : List Rat, great b qs = b ∨ great b qs ∈ qs := by
  intro qs
  induction qs generalizing b with
  | nil => exact .inl rfl
  | cons x xs ih =>
    unfold great
    rw [List.foldl_cons]
    by_cases h : b < x
    · rw [if_pos h]
      rcases ih x with e | e
      · right; unfold great at e; rw [e]; simp
      · right; unfold great at e; simp [e]
    · rw [if_neg h]
      rcases ih b with e | e
      · left; exact e
      · right; unfold great at e; simp [e]
theorem great_ge (b : Rat) : ∀ qs : List Rat, b ≤ great b qs ∧ ∀ q ∈ qs, q ≤ great b qs := by
  intro qs
  induction qs generalizing b with
  | nil => exact ⟨Rat.le_refl, fun q hq => by cases hq⟩
  | cons x xs ih =>
    unfold great
    rw [List.foldl_cons]
    by_cases h : b < x
    · rw [if_pos h]
      obtain ⟨a, c⟩ := ih x
      exact ⟨Rat.le_trans (Rat.le_of_lt h) a, fun q hq => by
        rcases List.mem_cons.mp hq with rfl | hq
        · exact a
        · exact c q hq⟩
    · rw [if_neg h]
      obtain ⟨a, c⟩ := ih b
      exact ⟨a, fun q hq => by
        rcases List.mem_cons.mp hq with rfl | hq
        · exact Rat.le_trans (Rat.not_lt.mp h) a
        · exact c q hq⟩
theorem greatest_ok {d : D} {q : Rat} {qs : List Rat} {m : Nat} (hd : srcOf h d = some (ratL (q :: qs), [])) (h0 : ixV h d (.int 0) = .ok (ratD q) h) (t : ∀ x ∈ q :: qs, Sz m x) (hm : m + m ≤ 9000) : callF l F_greatest [d] h = .ok (ratD (great q (q :: qs))) h := by
  have step : ∀ (b : Rat) (x : Rat) (xs : List Rat), (Sz m b ∧ ∀ y ∈ x :: xs, Sz m y) → turnK [2] [2] (exL (h.length :: l) F_greatest_b1) (ratD x) [some d, some (ratD b), none] h = .ok (.nx [some d, some (ratD (if b < x then x else b)), none]) h ∧
      (Sz m (if b < x then x else b) ∧ ∀ y ∈ xs, Sz m y) := by
    rintro b x xs ⟨sb, sx⟩
    have s1 := sx x (by simp)
    refine ⟨?_, by split <;> assumption, fun y hy => sx y (by simp [hy])⟩
    have e := fun hh => is_less_ok (l := h.length :: l) (h := hh) sb s1 hm
    by_cases c : b < x
    · simp [turnK, F_greatest_b1, e, c]
    · simp [turnK, F_greatest_b1, e, c]
  have e := (forE_fold (l := h.length :: l) (tg := [2]) (kill := [2]) (body := F_greatest_b1) (h := h) ratD (fun b => [some d, some (ratD b), none]) (fun b x => if b < x then x else b) (fun b xs => Sz m b ∧ ∀ y ∈ xs, Sz m y) step (q :: qs) q ⟨t q (by simp), t⟩).1
  unfold ratL at hd
  show _ = R.ok (ratD ((q :: qs).foldl (fun b x => if b < x then x else b) q)) h
  generalize (q :: qs).foldl (fun b x => if b < x then x else b) q = g at e ⊢
  generalize (q :: qs).map ratD = xs at hd e
  simp [F_greatest, h0, hd, e]
  exact fin_rat rfl
end
end P
namespace Lw
noncomputable def F_law_sum_b1 : SL :=
  (.cons (.set 1 (.call "_law_plus" F_law_plus (.cons (.var 1) (.cons (.var 2) .nil))))
  .nil)
noncomputable def F_law_sum : Fn := .mk 1 3 false
  (.cons (.set 1 (.tup (.cons (.cst (.int 0)) (.cons (.cst (.int 1)) .nil))))
  (.cons (.for_ [2] (.seq (.var 0)) F_law_sum_b1 [2])
  (.cons (.ret (.var 1))
  .nil)))
theorem sum_ok {l : List Nat} {h : Hh} {d : D} {qs : List Rat} {m : Nat} (hd : srcOf h d = some (ratL qs, [])) (t : ∀ q ∈ qs, Sz m q) (hm : (m + 1) * qs.length + 2 + m ≤ 9000) : callF l F_law_sum [d] h = .ok (ratD (qs.foldl (· + ·) 0)) h := by
  have step : ∀ (b : Rat) (x : Rat) (xs : List Rat), (∃ j, Sz j b ∧ (∀ q ∈ x :: xs, Sz m q) ∧ j + (m + 1) * (x :: xs).length + m ≤ 9000) → turnK [2] [2] (exL (h.length :: l) F_law_sum_b1) (ratD x) [some d, some (ratD b), none] h = .ok (.nx [some d, some (ratD (b + x)), none]) h ∧
      (∃ j, Sz j (b + x) ∧ (∀ q ∈ xs, Sz m q) ∧ j + (m + 1) * xs.length + m ≤ 9000) := by
    rintro b x xs ⟨j, sj, tt, hj⟩
    have sx := tt x (by simp)
    rw [List.length_cons, Nat.mul_add] at hj
    refine ⟨?_, j + m + 1, sj.add sx, fun q hq => tt q (by simp [hq]), by omega⟩
    have e := fun hh => plus_ok (l := h.length :: l) (h := hh) sj sx (by omega)
    simp [turnK, F_law_sum_b1, e]
  have e := (forE_fold (l := h.length :: l) (tg := [2]) (kill := [2]) (body := F_law_sum_b1) (h := h) ratD (fun b => [some d, some (ratD b), none]) (· + ·) (fun b xs => ∃ j, Sz j b ∧ (∀ q ∈ xs, Sz m q) ∧ j + (m + 1) * xs.length + m ≤ 9000) step qs 0 ⟨1, ⟨by decide, by decide⟩, t, by omega⟩).1
  unfold ratL at hd
  have two : 2 ≤ sizeLine := by decide
  have ni : D.tup [(.int 0), (.int 1)] = ratD 0 := rfl
  simp [F_law_sum, two, ni, hd, e]
  exact P.fin_rat rfl
end Lw
end Mp

set_option maxRecDepth 100000
/-! Mw: steps of the evaluator, one by one, for goals of the form `.. = .ok ?value ?heap`. -/
namespace Mp
open PySem
/-- statements, one list behind the other -/
def SL.app : SL → SL → SL
  | .nil, t => t
  | .cons s ss, t => .cons s (SL.app ss t)
theorem exL_app {l : List Nat} {t : SL} : ∀ (s : SL) (σ : Sg) (h : Hh), exL l (s.app t) σ h = (exL l s σ h).bind (seqFl fun σ' h' => exL l t σ' h')
  | .nil, σ, h => by simp [SL.app]
  | .cons s ss, σ, h => by
    rw [SL.app, exL_cons, exL_cons]
    cases e : exS l s σ h with
    | bad => rfl
    | ex c fs h' => rfl
    | ok fl h' =>
      cases fl with
      | nx σ' => simp only [R.bind_ok, seqFl]; exact exL_app ss σ' h'
      | rt d => rfl
      | xc c fs σ' => rfl
namespace W
section
variable {l : List Nat} {σ σ1 σ2 σ3 : Sg} {h h1 h2 h3 h4 : Hh} {d x y z w : D} {a b c e : E} {es : EL} {ds xs ys : List D} {r : R Fl} {ss A B : SL} {p q : Bool} {wt : Wt} {tg kill : List Nat}
theorem no : evE l .no σ h = .ok .non h := evE_no
theorem var {i : Nat} (e : σ[i]? = some (some d)) : evE l (.var i) σ h = .ok d h := by rw [evE_var]; simp only [varV, e]
theorem cst : evE l (.cst d) σ h = .ok d h := evE_cst
theorem glob {n : String} : evE l (.glob n d) σ h = .ok d h := evE_glob
theorem bop' {o : Bop} (e1 : evE l a σ h = .ok x h1) (e2 : evE l b σ h1 = .ok y h2) (e3 : bop o h2 x y = .ok z h3) : evE l (.bop o a b) σ h = .ok z h3 := by rw [evE_bop, e1, R.bind_ok, e2, R.bind_ok, e3]
theorem neg {i : Int} (e1 : evE l a σ h = .ok (.int i) h1) : evE l (.neg a) σ h = .ok (.int (-i)) h1 := by rw [evE_neg, e1, R.bind_ok]; rfl
theorem not' (e1 : evE l a σ h = .ok (.bl p) h1) : evE l (.not a) σ h = .ok (.bl (!p)) h1 := by rw [evE_not, e1, R.bind_ok]; rfl
theorem and' (e1 : evE l a σ h = .ok (.bl p) h) (e2 : evE l b σ h = .ok (.bl q) h) : evE l (.and a b) σ h = .ok (.bl (p && q)) h := by
  rw [evE_and, e1, R.bind_ok]
  cases p <;> simp [e2]
theorem and_t (e1 : evE l a σ h = .ok (.bl p) h1) (t : p = true) (e2 : evE l b σ h1 = .ok d h2) : evE l (.and a b) σ h = .ok d h2 := by
  rw [evE_and, e1, R.bind_ok]; subst t; simp [e2]
theorem and_f (e1 : evE l a σ h = .ok (.bl p) h1) (t : p = false) : evE l (.and a b) σ h = .ok (.bl false) h1 := by
  rw [evE_and, e1, R.bind_ok]; subst t; simp
theorem or' (e1 : evE l a σ h = .ok (.bl p) h) (e2 : evE l b σ h = .ok (.bl q) h) : evE l (.or a b) σ h = .ok (.bl (p || q)) h := by
  rw [evE_or, e1, R.bind_ok]
  cases p <;> simp [e2]
theorem or_t (e1 : evE l a σ h = .ok (.bl p) h1) (t : p = true) : evE l (.or a b) σ h = .ok (.bl true) h1 := by
  rw [evE_or, e1, R.bind_ok]; subst t; simp
theorem or_f (e1 : evE l a σ h = .ok (.bl p) h1) (t : p = false) (e2 : evE l b σ h1 = .ok d h2) : evE l (.or a b) σ h = .ok d h2 := by
  rw [evE_or, e1, R.bind_ok]; subst t; simp [e2]
theorem cmp {o : Cop} (e1 : evE l a σ h = .ok x h1) (e2 : evE l b σ h1 = .ok y h2) (e3 : cop o h2 x y = .ok z h3) : evE l (.cmp o a b) σ h = .ok z h3 := by rw [evE_cmp, e1, R.bind_ok, e2, R.bind_ok, e3]
theorem chain {o o' : Cop} (e1 : evE l a σ h = .ok x h) (e2 : evE l b σ h = .ok y h) (e3 : cop o h x y = .ok (.bl p) h) (e4 : evE l c σ h = .ok z h) (e5 : cop o' h y z = .ok (.bl q) h) : evE l (.chain o o' a b c) σ h = .ok (.bl (p && q)) h := by
  rw [evE_chain, e1, R.bind_ok, e2, R.bind_ok, e3, R.bind_ok]
  cases p <;> simp [e4, e5]
theorem chain_f {o o' : Cop} (e1 : evE l a σ h = .ok x h1) (e2 : evE l b σ h1 = .ok y h2) (e3 : cop o h2 x y = .ok (.bl p) h3) (t : p = false) : evE l (.chain o o' a b c) σ h = .ok (.bl false) h3 := by
  rw [evE_chain, e1, R.bind_ok, e2, R.bind_ok, e3, R.bind_ok]
  subst t; simp
theorem isN (e1 : evE l a σ h = .ok x h1) : evE l (.isN a) σ h = .ok (.bl (isNon x)) h1 := by rw [evE_isN, e1, R.bind_ok]
theorem notN (e1 : evE l a σ h = .ok x h1) : evE l (.notN a) σ h = .ok (.bl (!isNon x)) h1 := by rw [evE_notN, e1, R.bind_ok]
theorem isB {k : Bool} (e1 : evE l a σ h = .ok x h1) (e2 : isBV k h1 x = .ok y h2) : evE l (.isB a k) σ h = .ok y h2 := by rw [evE_isB, e1, R.bind_ok, e2]
theorem notB {k : Bool} (e1 : evE l a σ h = .ok x h1) (e2 : notBV k h1 x = .ok y h2) : evE l (.notB a k) σ h = .ok y h2 := by rw [evE_notB, e1, R.bind_ok, e2]
theorem ite_t (e1 : evE l c σ h = .ok (.bl p) h1) (t : p = true) (e2 : evE l a σ h1 = .ok d h2) : evE l (.ite c a b) σ h = .ok d h2 := by rw [evE_ite, e1, R.bind_ok]; subst t; simp [e2]
theorem ite_f (e1 : evE l c σ h = .ok (.bl p) h1) (t : p = false) (e2 : evE l b σ h1 = .ok d h2) : evE l (.ite c a b) σ h = .ok d h2 := by rw [evE_ite, e1, R.bind_ok]; subst t; simp [e2]
theorem lnil : evL l .nil σ h = .ok [] h := evL_nil
theorem lcons (e1 : evE l e σ h = .ok x h1) (e2 : evL l es σ h1 = .ok xs h2) : evL l (.cons e es) σ h = .ok (x :: xs) h2 := by rw [evL_cons, e1, R.bind_ok, e2, R.bind_ok]
theorem tup (e1 : evL l es σ h = .ok ds h1) (k : ds.length ≤ 1000) : evE l (.tup es) σ h = .ok (.tup ds) h1 := by
  rw [evE_tup, e1, R.bind_ok, if_pos (Nat.le_trans k (by decide))]
theorem lst (e1 : evL l es σ h = .ok ds h1) (k : ds.length ≤ 1000) : evE l (.lst es) σ h = .ok (.lst ds) h1 := by
  rw [evE_lst, e1, R.bind_ok, if_pos (Nat.le_trans k (by decide))]
theorem ix (e1 : evE l a σ h = .ok x h1) (e2 : evE l b σ h1 = .ok y h2) (e3 : ixV h2 x y = .ok z h3) : evE l (.ix a b) σ h = .ok z h3 := by rw [evE_ix, e1, R.bind_ok, e2, R.bind_ok, e3]
theorem sl_hi {i : Int} (e1 : evE l a σ h = .ok x h1) (n : isNo b = false) (e2 : evE l b σ h1 = .ok (.int i) h2) (e3 : slV h2 x none (some i) = .ok z h3) : evE l (.sl a .no b) σ h = .ok z h3 := by
  have m : isNo E.no = true := rfl
  rw [evE_sl, e1, R.bind_ok, evE_no, R.bind_ok, n, m]
  simp only [optV, e2, R.bind_ok, e3]
theorem sl_lo {i : Int} (e1 : evE l a σ h = .ok x h1) (n : isNo b = false) (e2 : evE l b σ h1 = .ok (.int i) h2) (e3 : slV h2 x (some i) none = .ok z h3) : evE l (.sl a b .no) σ h = .ok z h3 := by
  have m : isNo E.no = true := rfl
  rw [evE_sl, e1, R.bind_ok, e2, R.bind_ok, n, m]
  simp only [optV, R.bind_ok, e3, evE_no]
theorem sl_lh {i j : Int} (e1 : evE l a σ h = .ok x h1) (n : isNo b = false) (e2 : evE l b σ h1 = .ok (.int i) h2) (m : isNo c = false) (e4 : evE l c σ h2 = .ok (.int j) h3) (e3 : slV h3 x (some i) (some j) = .ok z h4) : evE l (.sl a b c) σ h = .ok z h4 := by
  rw [evE_sl, e1, R.bind_ok, e2, R.bind_ok, n, m]
  simp only [optV, e4, R.bind_ok, e3]
theorem rev (e1 : evE l a σ h = .ok x h1) (e2 : revV h1 x = .ok y h2) : evE l (.rev a) σ h = .ok y h2 := by rw [evE_rev, e1, R.bind_ok, e2]
theorem call {n : String} {f : Fn} (e1 : evL l es σ h = .ok ds h1) (e2 : callF l f ds h1 = .ok d h2) : evE l (.call n f es) σ h = .ok d h2 := by rw [evE_call, e1, R.bind_ok, e2]
theorem blt' {f : Blt} (e1 : evL l es σ h = .ok ds h1) (e2 : blt f h1 ds = .ok d h2) : evE l (.blt f es) σ h = .ok d h2 := by rw [evE_blt, e1, R.bind_ok, e2]
theorem isin {ts : List Ty} (e1 : evE l a σ h = .ok x h1) (e2 : isinV ts h1 x = .ok y h2) : evE l (.isin a ts) σ h = .ok y h2 := by rw [evE_isin, e1, R.bind_ok, e2]
theorem comp {src : It} (e1 : evI l src σ h = .ok (xs, wt) h1) (e2 : compE l e tg c wt xs σ h1 = .ok ys h2) (k : ys.length ≤ 100000) : evE l (.comp e tg src c) σ h = .ok (.lst ys) h2 := by
  rw [evE_comp, e1, R.bind_ok, e2]
  simp only [R.noEx, R.bind_ok]
  rw [if_pos (Nat.lt_of_le_of_lt k (by decide))]
theorem alloc (e1 : evE l e σ h = .ok (.lst ds) h1) : evE l (.alloc e) σ h = .ok (.ref h1.length) (h1 ++ [.lst ds]) := by rw [evE_alloc, e1, R.bind_ok]; rfl
theorem vals {i k j : Nat} (e1 : σ[j]? = some (some x)) (k1 : i + 1 ≤ σ.length) (e2 : valsV k h x = .ok y h1) : evE l (.vals i k j) σ h = .ok y h1 := by
  rw [evE_vals]
  simp only [varV, e1, R.bind_ok]
  rw [if_pos (show i < σ.length from k1), e2]
theorem pick {ps : List (Int × Int)} (e1 : evE l a σ h = .ok x h1) (e2 : pickV ps h1 x = .ok y h1) : evE l (.pick ps a) σ h = .ok y h1 := by rw [evE_pick, e1, R.bind_ok, e2]
theorem lf_vals {k : Nat} {r : R D} (e : valsV k h x = r) : valsV k h x = r := e
theorem lf_pick {ps : List (Int × Int)} {r : R D} (e : pickV ps h x = r) : pickV ps h x = r := e
theorem xfld {f : String} (e1 : evE l a σ h = .ok x h1) (e2 : xfldV f h1 x = .ok y h2) : evE l (.xfld a f) σ h = .ok y h2 := by rw [evE_xfld, e1, R.bind_ok, e2]
theorem mkx {n : String} (e1 : evL l es σ h = .ok ds h1) (k : ds.length = (excF n).length) : evE l (.mkx n es) σ h = .ok (.exc n ds) h1 := by rw [evE_mkx, e1, R.bind_ok, if_pos k]
theorem blt_inR2 {neg : Bool} {i a b : Int} : Mp.blt (.inR neg true) h [.int i, .int a, .int b] = .ok (.bl (neg != decide (a ≤ i ∧ i < b))) h := rfl
theorem blt_inR1 {neg : Bool} {i b : Int} : Mp.blt (.inR neg false) h [.int i, .int b] = .ok (.bl (neg != decide (0 ≤ i ∧ i < b))) h := rfl
theorem bm' {m : Bm} (e1 : evE l a σ h = .ok x h1) (k : recv (bmTy m) h1 x = true) (e2 : evL l es σ h1 = .ok ds h2) (e3 : bm m l h2 x ds = .ok y h3) : evE l (.bm m a es) σ h = .ok y h3 := by
  rw [evE_bm, e1, R.bind_ok, if_pos k, e2, R.bind_ok, e3]
theorem seq (e1 : evE l a σ h = .ok x h1) (e2 : srcOf h1 x = some (xs, wt)) : evI l (.seq a) σ h = .ok (xs, wt) h1 := by rw [evI_seq, e1, R.bind_ok, e2]; rfl
theorem rg1 {i : Int} (e1 : evE l a σ h = .ok (.int i) h1) (k : rgOk 0 i = true) : evI l (.rg1 a) σ h = .ok (rg 0 i, []) h1 := by rw [evI_rg1, e1, R.bind_ok]; simp [rgV, k]
theorem rg2 {i j : Int} (e1 : evE l a σ h = .ok (.int i) h1) (e2 : evE l b σ h1 = .ok (.int j) h2) (k : rgOk i j = true) : evI l (.rg2 a b) σ h = .ok (rg i j, []) h2 := by rw [evI_rg2, e1, R.bind_ok, e2, R.bind_ok]; simp [rgV, k]
theorem enum (e1 : evE l a σ h = .ok x h1) (e2 : srcOf h1 x = some (xs, wt)) : evI l (.enum a) σ h = .ok (enumD xs, wt) h1 := by rw [evI_enum, e1, R.bind_ok, e2]; rfl
theorem zip {xs' : List D} {wt' : Wt} (e1 : evE l a σ h = .ok x h1) (e2 : evE l b σ h1 = .ok y h2) (k : isTup x = isTup y) (e3 : srcOf h2 x = some (xs, wt)) (e4 : srcOf h2 y = some (xs', wt')) : evI l (.zip a b) σ h = .ok (zipD xs xs', wt ++ wt') h2 := by
  rw [evI_zip, e1, R.bind_ok, e2, R.bind_ok, if_pos k, e3]
  simp only [someV, R.bind_ok, e4]
/-! statements, with what stands behind them -/
theorem nil : exL l .nil σ h = .ok (.nx σ) h := exL_nil
theorem ap_nil (e : exL l ss σ h = r) : exL l (SL.app .nil ss) σ h = r := e
theorem ap_cons {s : S} (e : exL l (.cons s (A.app ss)) σ h = r) : exL l (SL.app (.cons s A) ss) σ h = r := e
theorem ex (e1 : evE l e σ h = .ok x h1) (k : exL l ss σ h1 = r) : exL l (.cons (.ex e) ss) σ h = r := by rw [exL_cons, exS_ex, e1]; exact k
theorem set {i : Nat} (e1 : evE l e σ h = .ok x h1) (e2 : σ.set i (some x) = σ1) (k : exL l ss σ1 h1 = r) : exL l (.cons (.set i e) ss) σ h = r := by rw [exL_cons, exS_set, e1, stE_ok, e2]; exact k
theorem unp {is : List Nat} (e1 : evE l e σ h = .ok x h1) (e2 : seqOf h1 x = some ds) (e3 : setAll σ is ds = some σ1) (k : exL l ss σ1 h1 = r) : exL l (.cons (.unp is e) ss) σ h = r := by
  rw [exL_cons, exS_unp, e1, stE_ok]
  simp only [unpV, e2, e3, someV, stE_ok]
  exact k
theorem par {i j : Nat} (e1 : evL l es σ h = .ok [x, y] h1) (e2 : (σ.set i (some x)).set j (some y) = σ1) (k : exL l ss σ1 h1 = r) : exL l (.cons (.par i j es) ss) σ h = r := by
  rw [exL_cons, exS_par, e1, stE_ok]
  simp only [parV, e2]
  exact k
theorem ixSet {o i v : E} (e1 : evE l v σ h = .ok z h1) (e2 : evE l o σ h1 = .ok x h2) (e3 : evE l i σ h2 = .ok y h3) (e4 : setItem l h3 x y z = .ok () h4) (k : exL l ss σ h4 = r) : exL l (.cons (.ixSet o i v) ss) σ h = r := by
  rw [exL_cons, exS_ixSet, e1, stE_ok, e2, stE_ok, e3, stE_ok, e4]; exact k
theorem ret (e1 : evE l e σ h = .ok x h1) : exL l (.cons (.ret e) ss) σ h = .ok (.rt x) h1 := by rw [exL_cons, exS_ret, e1]; rfl
theorem if_t (e1 : evE l c σ h = .ok (.bl p) h1) (t : p = true) (k : exL l (A.app ss) σ h1 = r) : exL l (.cons (.ite c A B) ss) σ h = r := by
  rw [exL_cons, exS_ite, e1, stE_ok]; subst t; rw [exL_app] at k; simpa using k
theorem if_f (e1 : evE l c σ h = .ok (.bl p) h1) (t : p = false) (k : exL l (B.app ss) σ h1 = r) : exL l (.cons (.ite c A B) ss) σ h = r := by
  rw [exL_cons, exS_ite, e1, stE_ok]; subst t; rw [exL_app] at k; simpa using k
theorem for' {src : It} {body : SL} (e1 : evI l src σ h = .ok (xs, wt) h1) (e2 : killAll σ kill = σ1) (e3 : forE l tg body kill wt xs σ1 h1 = .ok (.nx σ2) h2) (k : exL l ss σ2 h2 = r) : exL l (.cons (.for_ tg src body kill) ss) σ h = r := by
  rw [exL_cons, exS_for, e1, stE_ok, e2, e3]; exact k
theorem for_rt {src : It} {body : SL} (e1 : evI l src σ h = .ok (xs, wt) h1) (e2 : killAll σ kill = σ1) (e3 : forE l tg body kill wt xs σ1 h1 = .ok (.rt d) h2) : exL l (.cons (.for_ tg src body kill) ss) σ h = .ok (.rt d) h2 := by
  rw [exL_cons, exS_for, e1, stE_ok, e2, e3]; rfl
theorem for_xc {src : It} {body : SL} {n : String} {fs : List D} (e1 : evI l src σ h = .ok (xs, wt) h1) (e2 : killAll σ kill = σ1) (e3 : forE l tg body kill wt xs σ1 h1 = .ok (.xc n fs σ2) h2) : exL l (.cons (.for_ tg src body kill) ss) σ h = .ok (.xc n fs σ2) h2 := by
  rw [exL_cons, exS_for, e1, stE_ok, e2, e3]; rfl
theorem while' {body : SL} (e2 : killAll σ kill = σ1) (e3 : whileE l c body kill σ1 h = .ok (.nx σ2) h2) (k : exL l ss σ2 h2 = r) : exL l (.cons (.while_ c body kill) ss) σ h = r := by
  rw [exL_cons, exS_while, e2, e3]; exact k
theorem raise {n : String} (e1 : evL l es σ h = .ok ds h1) (k : ds.length = (excF n).length) : exL l (.cons (.raise n es) ss) σ h = .ok (.xc n ds σ) h1 := by
  rw [exL_cons, exS_raise, e1, stE_ok, if_pos k]; rfl
theorem pass (k : exL l ss σ h = r) : exL l (.cons .pass ss) σ h = r := by rw [exL_cons, exS_pass]; exact k
theorem kill' {is : List Nat} (e : killAll σ is = σ1) (k : exL l ss σ1 h = r) : exL l (.cons (.kill is) ss) σ h = r := by rw [exL_cons, exS_kill, e]; exact k
/-- an expression that is refused -/
theorem set_x {i : Nat} {n : String} {fs : List D} (e1 : evE l e σ h = .ex n fs h1) : exL l (.cons (.set i e) ss) σ h = .ok (.xc n fs σ) h1 := by rw [exL_cons, exS_set, e1]; rfl
theorem ex_x {n : String} {fs : List D} (e1 : evE l e σ h = .ex n fs h1) : exL l (.cons (.ex e) ss) σ h = .ok (.xc n fs σ) h1 := by rw [exL_cons, exS_ex, e1]; rfl
theorem ret_x {n : String} {fs : List D} (e1 : evE l e σ h = .ex n fs h1) : exL l (.cons (.ret e) ss) σ h = .ok (.xc n fs σ) h1 := by rw [exL_cons, exS_ret, e1]; rfl
theorem call_x {n m : String} {f : Fn} {fs : List D} (e1 : evL l es σ h = .ok ds h1) (e2 : callF l f ds h1 = .ex m fs h2) : evE l (.call n f es) σ h = .ex m fs h2 := by rw [evE_call, e1, R.bind_ok, e2]
theorem try_ok {body : SL} {hs : HL} (e1 : exL l body σ h = .ok (.nx σ1) h1) (k : exL l ss σ1 h1 = r) : exL l (.cons (.try_ body hs) ss) σ h = r := by
  rw [exL_cons, exS_try, e1]; exact k
theorem try_rt {body : SL} {hs : HL} (e1 : exL l body σ h = .ok (.rt d) h1) : exL l (.cons (.try_ body hs) ss) σ h = .ok (.rt d) h1 := by
  rw [exL_cons, exS_try, e1]; rfl
theorem try_xc {body suite : SL} {hs : HL} {n n' : String} {fs : List D} {i : Option Nat} (e1 : exL l body σ h = .ok (.xc n fs σ1) h1) (s : excSub n n' = true) (e2 : asSet i (.exc n fs) σ1 = σ2) (e3 : exL l suite σ2 h1 = .ok (.nx σ3) h2) (k : exL l ss (asGone i σ3) h2 = r) : exL l (.cons (.try_ body (.cons n' i suite hs)) ss) σ h = r := by
  rw [exL_cons, exS_try, e1, R.bind_ok]
  simp only [tryV, exH_cons, s, if_true, e2, e3, R.bind_ok, suiteV]
  exact k
/-! turns and items -/
theorem turn {body : SL} (t : target h tg d σ = some σ1) (e : exL l body σ1 h = .ok (.nx σ2) h1) (k : killAll σ2 kill = σ3) : turnK tg kill (exL l body) d σ h = .ok (.nx σ3) h1 := by
  simp only [turnK, bindT, t, e, R.bind_ok, killV, k]
theorem turn_rt {body : SL} (t : target h tg d σ = some σ1) (e : exL l body σ1 h = .ok (.rt x) h1) : turnK tg kill (exL l body) d σ h = .ok (.rt x) h1 := by
  simp only [turnK, bindT, t, e, R.bind_ok, killV]
theorem turn_xc {body : SL} {n : String} {fs : List D} (t : target h tg d σ = some σ1) (e : exL l body σ1 h = .ok (.xc n fs σ2) h1) : turnK tg kill (exL l body) d σ h = .ok (.xc n fs σ2) h1 := by
  simp only [turnK, bindT, t, e, R.bind_ok, killV]
theorem item {f : Sg → Hh → R D} (t : target h tg d (killAll σ tg) = some σ1) (e1 : evE l e σ1 h = .ok x h1) : itemK tg σ true f (evE l e) d h = .ok (some x) h1 := by
  simp only [itemK, bindT, t, if_true, e1, R.bind_ok]
theorem itemF {o : Option D} (t : target h tg d (killAll σ tg) = some σ1) (e1 : evE l c σ1 h = .ok (.bl p) h1) (e2 : p = true → evE l e σ1 h1 = .ok x h2) (e3 : p = false → h2 = h1) (k : o = if p then some x else none) : itemK tg σ false (evE l c) (evE l e) d h = .ok o h2 := by
  simp only [itemK, bindT, t, Bool.false_eq_true, if_false, e1, R.bind_ok, boolV]
  cases p with
  | true => simp [e2 rfl, k]
  | false => simp [e3 rfl, k]
/-- .. whose parts change nothing -/
theorem itemP {o : Option D} (t : target h tg d (killAll σ tg) = some σ1) (e1 : evE l c σ1 h = .ok (.bl p) h) (e2 : evE l e σ1 h = .ok x h) (k : o = if p then some x else none) : itemK tg σ false (evE l c) (evE l e) d h = .ok o h :=
  itemF t e1 (fun _ => e2) (fun _ => rfl) k
theorem add_lst {zs : List D} (k : xs.length + ys.length ≤ 1000000) (q : xs ++ ys = zs) : Mp.bop .add h (.lst xs) (.lst ys) = .ok (.lst zs) h := by
  have : xs.length + ys.length ≤ sizeLine := Nat.le_trans k (by decide)
  subst q
  simp [Mp.bop, lstOf, this]
theorem add_tup {zs : List D} (k : xs.length + ys.length ≤ 1000000) (q : xs ++ ys = zs) : Mp.bop .add h (.tup xs) (.tup ys) = .ok (.tup zs) h := by
  have : xs.length + ys.length ≤ sizeLine := Nat.le_trans k (by decide)
  subst q
  simp [Mp.bop, this]
/-- a call by its body -/
theorem fn {np ns : Nat} {keep : Bool} {body : SL} (k : ds.length = np) (k2 : np ≤ ns) (e0 : ds.map some ++ List.replicate (ns - np) none = σ) (e1 : exL (if keep then l else h.length :: l) body σ h = .ok (.rt x) h1) (e2 : fin keep h.length x h1 = .ok d h2) : callF l (.mk np ns keep body) ds h = .ok d h2 := by
  rw [callF_mk, if_pos ⟨k, k2⟩, e0, e1]
  exact e2
theorem fn0 {np ns : Nat} {body : SL} (k : ds.length = np) (k2 : np ≤ ns) (e0 : ds.map some ++ List.replicate (ns - np) none = σ) (e1 : exL (h.length :: l) body σ h = .ok (.rt x) h1) (e2 : fin false h.length x h1 = .ok d h2) : callF l (.mk np ns false body) ds h = .ok d h2 := fn k k2 e0 e1 e2
theorem fn_xc {np ns : Nat} {body : SL} {n : String} {fs : List D} (k : ds.length = np) (k2 : np ≤ ns) (e0 : ds.map some ++ List.replicate (ns - np) none = σ) (e1 : exL (h.length :: l) body σ h = .ok (.xc n fs σ1) h1) (e2 : D.unds h.length fs = true) (e3 : h1.take h.length = h) : callF l (.mk np ns false body) ds h = .ex n fs h := by
  rw [callF_mk, if_pos ⟨k, k2⟩, e0]
  simp only [Bool.false_eq_true, if_false, e1, endF, e2, if_true, e3]
theorem fin_und {b : Nat} (u : d.und b = true) (t : h1.take b = h) : fin false b d h1 = .ok d h := by
  simp [fin, u, t]
theorem take_same : h.take h.length = h := List.take_of_length_le (Nat.le_refl _)
theorem take_set {n : Nat} {o : Ob} : (h.set n o).take h.length = h.set n o := List.take_of_length_le (by rw [List.length_set]; exact Nat.le_refl _)
theorem take_app {g : Hh} : (h ++ g).take h.length = h := by rw [List.take_append_of_le_length (Nat.le_refl _), List.take_of_length_le (Nat.le_refl _)]
end
section
variable {l : List Nat} {σ σ1 σ2 σ3 : Sg} {h h1 h2 h3 : Hh} {d x y z : D} {a b c e : E} {es : EL} {ds xs ys : List D} {r : R Fl} {ss A B : SL} {p q : Bool} {wt : Wt} {tg kill : List Nat} {n m : String} {fs : List D}
theorem tup_x (e1 : evL l es σ h = .ex n fs h1) : evE l (.tup es) σ h = .ex n fs h1 := by rw [evE_tup, e1]; rfl
theorem lst_x (e1 : evL l es σ h = .ex n fs h1) : evE l (.lst es) σ h = .ex n fs h1 := by rw [evE_lst, e1]; rfl
theorem lcons_x (e1 : evE l e σ h = .ex n fs h1) : evL l (.cons e es) σ h = .ex n fs h1 := by rw [evL_cons, e1]; rfl
theorem lcons_x2 (e1 : evE l e σ h = .ok x h1) (e2 : evL l es σ h1 = .ex n fs h2) : evL l (.cons e es) σ h = .ex n fs h2 := by rw [evL_cons, e1, R.bind_ok, e2]; rfl
theorem call_xa {f : Fn} (e1 : evL l es σ h = .ex n fs h1) : evE l (.call m f es) σ h = .ex n fs h1 := by rw [evE_call, e1]; rfl
theorem ix_x (e1 : evE l a σ h = .ex n fs h1) : evE l (.ix a b) σ h = .ex n fs h1 := by rw [evE_ix, e1]; rfl
theorem if_x (e1 : evE l c σ h = .ex n fs h1) : exL l (.cons (.ite c A B) ss) σ h = .ok (.xc n fs σ) h1 := by rw [exL_cons, exS_ite, e1]; rfl
theorem isB_x {k : Bool} (e1 : evE l a σ h = .ex n fs h1) : evE l (.isB a k) σ h = .ex n fs h1 := by rw [evE_isB, e1]; rfl
theorem notB_x {k : Bool} (e1 : evE l a σ h = .ex n fs h1) : evE l (.notB a k) σ h = .ex n fs h1 := by rw [evE_notB, e1]; rfl
theorem isN_x (e1 : evE l a σ h = .ex n fs h1) : evE l (.isN a) σ h = .ex n fs h1 := by rw [evE_isN, e1]; rfl
theorem blt_x {f : Blt} (e1 : evL l es σ h = .ex n fs h1) : evE l (.blt f es) σ h = .ex n fs h1 := by rw [evE_blt, e1]; rfl
theorem cmp_x {o : Cop} (e1 : evE l a σ h = .ex n fs h1) : evE l (.cmp o a b) σ h = .ex n fs h1 := by rw [evE_cmp, e1]; rfl
theorem cmp_x2 {o : Cop} (e1 : evE l a σ h = .ok x h1) (e2 : evE l b σ h1 = .ex n fs h2) : evE l (.cmp o a b) σ h = .ex n fs h2 := by rw [evE_cmp, e1, R.bind_ok, e2]; rfl
theorem bop_x {o : Bop} (e1 : evE l a σ h = .ex n fs h1) : evE l (.bop o a b) σ h = .ex n fs h1 := by rw [evE_bop, e1]; rfl
theorem bop_x2 {o : Bop} (e1 : evE l a σ h = .ok x h1) (e2 : evE l b σ h1 = .ex n fs h2) : evE l (.bop o a b) σ h = .ex n fs h2 := by rw [evE_bop, e1, R.bind_ok, e2]; rfl
theorem unp_x {is : List Nat} (e1 : evE l e σ h = .ex n fs h1) : exL l (.cons (.unp is e) ss) σ h = .ok (.xc n fs σ) h1 := by rw [exL_cons, exS_unp, e1]; rfl
theorem for_x {src : It} {body : SL} (e1 : evI l src σ h = .ex n fs h1) : exL l (.cons (.for_ tg src body kill) ss) σ h = .ok (.xc n fs σ) h1 := by rw [exL_cons, exS_for, e1]; rfl
theorem seq_x (e1 : evE l a σ h = .ex n fs h1) : evI l (.seq a) σ h = .ex n fs h1 := by rw [evI_seq, e1]; rfl
theorem not_x (e1 : evE l a σ h = .ex n fs h1) : evE l (.not a) σ h = .ex n fs h1 := by rw [evE_not, e1]; rfl
theorem try_c {body suite : SL} {hs : HL} {n' : String} {i : Option Nat} {σ4 : Sg} (e1 : exL l body σ h = .ok (.xc n fs σ1) h1) (s : excSub n n' = true) (e2 : asSet i (.exc n fs) σ1 = σ2) (e3 : exL l suite σ2 h1 = .ok (.nx σ3) h2) (e4 : asGone i σ3 = σ4) (k : exL l ss σ4 h2 = r) : exL l (.cons (.try_ body (.cons n' i suite hs)) ss) σ h = r :=
  try_xc e1 s e2 e3 (by rw [e4]; exact k)
theorem try_n {body suite : SL} {hs : HL} {n' : String} {i : Option Nat} (e1 : exL l body σ h = .ok (.xc n fs σ1) h1) (s : excSub n n' = false) (k : exH l hs n fs σ1 h1 = .ok (.nx σ2) h2) (e : exL l ss σ2 h2 = r) : exL l (.cons (.try_ body (.cons n' i suite hs)) ss) σ h = r := by
  rw [exL_cons, exS_try, e1, R.bind_ok]
  simp only [tryV, exH_cons, s, Bool.false_eq_true, if_false, k, R.bind_ok]
  exact e
theorem own_is (c c' : String) (fs : List D) (hh : Hh) : isinV [.own c'] hh (.exc c fs) = .ok (.bl (excSub c c')) hh := by
  cases e : excSub c c' <;> simp [isinV, isAny, isTy, e]
/-! loops and comprehensions over told items -/
theorem fcons {body : SL} (e1 : turnK tg kill (exL l body) d σ h = .ok (.nx σ1) h1) (e2 : forE l tg body kill [] ds σ1 h1 = r) : forE l tg body kill [] (d :: ds) σ h = r := by rw [forE_cons e1, e2]
theorem fstop {body : SL} (e1 : turnK tg kill (exL l body) d σ h = .ok (.rt x) h1) : forE l tg body kill [] (d :: ds) σ h = .ok (.rt x) h1 := by
  unfold forE
  simp [forL, ifW, watch_nil, e1]
theorem fstop_x {body : SL} (e1 : turnK tg kill (exL l body) d σ h = .ok (.xc n fs σ1) h1) : forE l tg body kill [] (d :: ds) σ h = .ok (.xc n fs σ1) h1 := by
  unfold forE
  simp [forL, ifW, watch_nil, e1]
theorem fnil {body : SL} : forE l tg body kill [] [] σ h = .ok (.nx σ) h := forE_nil
theorem cnil : compE l e tg c [] [] σ h = .ok [] h := by simp [compE, compL, ifW, watch_nil]
theorem ccons (e1 : itemK tg σ (isNo c) (evE l c) (evE l e) d h = .ok (some x) h1) (e2 : compE l e tg c [] ds σ h1 = .ok xs h2) : compE l e tg c [] (d :: ds) σ h = .ok (x :: xs) h2 := by
  unfold compE at *
  simp only [compL, ifW, watch_nil, if_true, e1, R.bind_ok, e2]
theorem cskip (e1 : itemK tg σ (isNo c) (evE l c) (evE l e) d h = .ok none h1) (e2 : compE l e tg c [] ds σ h1 = .ok xs h2) : compE l e tg c [] (d :: ds) σ h = .ok xs h2 := by
  unfold compE at *
  simp only [compL, ifW, watch_nil, if_true, e1, R.bind_ok, e2]
theorem item_n {f : Sg → Hh → R D} (t : target h tg d (killAll σ tg) = some σ1) (e1 : evE l e σ1 h = .ok x h1) : itemK tg σ (isNo .no) f (evE l e) d h = .ok (some x) h1 := item t e1
theorem item_t (k : isNo c = false) (t : target h tg d (killAll σ tg) = some σ1) (e1 : evE l c σ1 h = .ok (.bl p) h1) (k2 : p = true) (e2 : evE l e σ1 h1 = .ok x h2) : itemK tg σ (isNo c) (evE l c) (evE l e) d h = .ok (some x) h2 := by
  subst k2
  rw [k]
  simp only [itemK, bindT, t, Bool.false_eq_true, if_false, e1, R.bind_ok, boolV, if_true, e2]
theorem item_f (k : isNo c = false) (t : target h tg d (killAll σ tg) = some σ1) (e1 : evE l c σ1 h = .ok (.bl p) h1) (k2 : p = false) : itemK tg σ (isNo c) (evE l c) (evE l e) d h = .ok none h1 := by
  subst k2
  rw [k]
  simp only [itemK, bindT, t, Bool.false_eq_true, if_false, e1, R.bind_ok, boolV]
end
theorem item_f0 {l : List Nat} {tg : List Nat} {σ σ1 : Sg} {c e : E} {d : D} {p : Bool} {h h1 : Hh} {o : Option D} (t : target h tg d (killAll σ tg) = some σ1) (e1 : evE l c σ1 h = .ok (.bl p) h1) (k2 : p = false) (ko : o = none) : itemK tg σ false (evE l c) (evE l e) d h = .ok o h1 := by
  subst k2 ko
  simp only [itemK, bindT, t, Bool.false_eq_true, if_false, e1, R.bind_ok, boolV]
/-! one look at a condition or a flow, then its way on -/
def selK {α : Type} (p : Bool) (x y : R α) : R α := bif p then x else y
noncomputable def flK (l : List Nat) (ss : SL) : Fl → Hh → R Fl
  | .nx σ, h => exL l ss σ h
  | fl, h => .ok fl h
noncomputable def foK (l tg kill : List Nat) (b : SL) (ds : List D) : Fl → Hh → R Fl
  | .nx σ, h => forE l tg b kill [] ds (killAll σ kill) h
  | fl, h => .ok fl h
noncomputable def trK (l : List Nat) (hs : HL) (ss : SL) : Fl → Hh → R Fl
  | .nx σ, h => exL l ss σ h
  | .rt d, h => .ok (.rt d) h
  | .xc n fs σ, h => ((exH l hs n fs σ h).bind (seqFl fun σ' h' => exL l ss σ' h'))
section
variable {l tg kill : List Nat} {σ σ1 σ2 σ3 : Sg} {h h1 h2 h3 : Hh} {x y z d : D} {ds : List D} {w : Wt} {a b c e : E} {p q : Bool} {A B ss : SL} {r : R Fl} {n : String} {fs : List D} {fl : Fl}
theorem r_rfl {α : Type} {a : R α} : a = a := rfl
theorem sel_t {α : Type} {X Y r : R α} (t : p = true) (k : X = r) : selK p X Y = r := by subst t; exact k
theorem sel_f {α : Type} {X Y r : R α} (t : p = false) (k : Y = r) : selK p X Y = r := by subst t; exact k
theorem and_s (e1 : evE l a σ h = .ok (.bl p) h1) (k : selK p (evE l b σ h1) (.ok (.bl false) h1) = .ok d h2) : evE l (.and a b) σ h = .ok d h2 := by
  rw [evE_and, e1, R.bind_ok]; cases p <;> simpa [selK] using k
theorem and_b (e : evE l b σ h = .ok (.bl q) h) : selK p (evE l b σ h) (.ok (.bl false) h) = .ok (.bl (p && q)) h := by cases p <;> simp [selK, e]
theorem or_s (e1 : evE l a σ h = .ok (.bl p) h1) (k : selK p (.ok (.bl true) h1) (evE l b σ h1) = .ok d h2) : evE l (.or a b) σ h = .ok d h2 := by
  rw [evE_or, e1, R.bind_ok]; cases p <;> simpa [selK] using k
theorem or_b (e : evE l b σ h = .ok (.bl q) h) : selK p (.ok (.bl true) h) (evE l b σ h) = .ok (.bl (p || q)) h := by cases p <;> simp [selK, e]
theorem ite_s (e1 : evE l c σ h = .ok (.bl p) h1) (k : selK p (evE l a σ h1) (evE l b σ h1) = .ok d h2) : evE l (.ite c a b) σ h = .ok d h2 := by
  rw [evE_ite, e1, R.bind_ok]; cases p <;> simpa [selK] using k
theorem if_s (e1 : evE l c σ h = .ok (.bl p) h1) (k : selK p (exL l (A.app ss) σ h1) (exL l (B.app ss) σ h1) = r) : exL l (.cons (.ite c A B) ss) σ h = r := by
  cases p with
  | true => exact if_t e1 rfl k
  | false => exact if_f e1 rfl k
theorem fl_nx (k : exL l ss σ h = r) : flK l ss (.nx σ) h = r := k
theorem fl_rt : flK l ss (.rt d) h = .ok (.rt d) h := rfl
theorem fl_xc : flK l ss (.xc n fs σ) h = .ok (.xc n fs σ) h := rfl
theorem for_s {src : It} {body : SL} (e1 : evI l src σ h = .ok (ds, w) h1) (e2 : killAll σ kill = σ1) (e3 : forE l tg body kill w ds σ1 h1 = .ok fl h2) (k : flK l ss fl h2 = r) : exL l (.cons (.for_ tg src body kill) ss) σ h = r := by
  cases fl with
  | nx s => exact for' e1 e2 e3 k
  | rt d => rw [← k]; exact for_rt e1 e2 e3
  | xc n fs s => rw [← k]; exact for_xc e1 e2 e3
theorem while_s {body : SL} (e2 : killAll σ kill = σ1) (e3 : whileE l c body kill σ1 h = .ok fl h2) (k : flK l ss fl h2 = r) : exL l (.cons (.while_ c body kill) ss) σ h = r := by
  rw [← k, exL_cons, exS_while, e2, e3]
  cases fl <;> rfl
theorem wh_s {body : SL} (e1 : evE l c σ h = .ok (.bl p) h1) (t : p = true) (e2 : exL l body σ h1 = .ok (.nx σ1) h2) (e3 : killAll σ1 kill = σ2) (k : whileE l c body kill σ2 h2 = r) : whileE l c body kill σ h = r := by
  subst t e3
  rw [whileE_step e1 (by rw [e2]; rfl), k]
theorem wh_e {body : SL} (e1 : evE l c σ h = .ok (.bl p) h1) (t : p = false) : whileE l c body kill σ h = .ok (.nx σ) h1 := by
  subst t
  exact whileE_stop e1
theorem fo_s {body : SL} (t : target h tg d σ = some σ1) (e : exL l body σ1 h = .ok fl h1) (k : foK l tg kill body ds fl h1 = r) : forE l tg body kill [] (d :: ds) σ h = r := by
  cases fl with
  | nx s => exact fcons (turn t e rfl) k
  | rt d => rw [← k]; exact fstop (turn_rt t e)
  | xc n fs s => rw [← k]; exact fstop_x (turn_xc t e)
theorem fo_nx {body : SL} (k1 : killAll σ kill = σ1) (k : forE l tg body kill [] ds σ1 h = r) : foK l tg kill body ds (.nx σ) h = r := by subst k1; exact k
theorem fo_rt {body : SL} : foK l tg kill body ds (.rt d) h = .ok (.rt d) h := rfl
theorem fo_xc {body : SL} : foK l tg kill body ds (.xc n fs σ) h = .ok (.xc n fs σ) h := rfl
theorem try_s {body : SL} {hs : HL} (e1 : exL l body σ h = .ok fl h1) (k : trK l hs ss fl h1 = r) : exL l (.cons (.try_ body hs) ss) σ h = r := by
  rw [← k, exL_cons, exS_try, e1, R.bind_ok]
  cases fl <;> rfl
theorem tr_nx {hs : HL} (k : exL l ss σ h = r) : trK l hs ss (.nx σ) h = r := k
theorem tr_rt {hs : HL} : trK l hs ss (.rt d) h = .ok (.rt d) h := rfl
theorem tr_c {suite : SL} {hs : HL} {n' : String} {i : Option Nat} (s : excSub n n' = true) (e2 : asSet i (.exc n fs) σ = σ1) (e3 : exL l suite σ1 h = .ok (.nx σ2) h1) (e4 : asGone i σ2 = σ3) (k : exL l ss σ3 h1 = r) : trK l (.cons n' i suite hs) ss (.xc n fs σ) h = r := by
  unfold trK
  simp only [exH_cons, s, if_true, e2, e3, R.bind_ok, suiteV, seqFl, e4]
  exact k
theorem tr_c_rt {suite : SL} {hs : HL} {n' : String} {i : Option Nat} (s : excSub n n' = true) (e2 : asSet i (.exc n fs) σ = σ1) (e3 : exL l suite σ1 h = .ok (.rt d) h1) : trK l (.cons n' i suite hs) ss (.xc n fs σ) h = .ok (.rt d) h1 := by
  unfold trK
  simp only [exH_cons, s, if_true, e2, e3, R.bind_ok, suiteV, seqFl]
theorem tr_n {suite : SL} {hs : HL} {n' : String} {i : Option Nat} (s : excSub n n' = false) (k : trK l hs ss (.xc n fs σ) h = r) : trK l (.cons n' i suite hs) ss (.xc n fs σ) h = r := by
  rw [← k]
  unfold trK
  simp only [exH_cons, s, Bool.false_eq_true, if_false]
/-- a turn, whatever comes of it -/
def tuK (kill : List Nat) : Fl → Hh → R Fl
  | .nx σ, h => .ok (.nx (killAll σ kill)) h
  | fl, h => .ok fl h
theorem turn_s {body : SL} (t : target h tg d σ = some σ1) (e : exL l body σ1 h = .ok fl h1) (k : tuK kill fl h1 = r) : turnK tg kill (exL l body) d σ h = r := by
  rw [← k]
  cases fl with
  | nx s => exact turn t e rfl
  | rt d => exact turn_rt t e
  | xc n fs s => exact turn_xc t e
theorem tu_nx (k : killAll σ kill = σ1) : tuK kill (.nx σ) h = .ok (.nx σ1) h := by subst k; rfl
theorem tu_rt : tuK kill (.rt d) h = .ok (.rt d) h := rfl
theorem tu_xc : tuK kill (.xc n fs σ) h = .ok (.xc n fs σ) h := rfl
/-- a comprehension's item, whatever comes of it -/
noncomputable def itK (l tg : List Nat) (e c : E) (σ : Sg) (ds : List D) (p : Bool) (σ1 : Sg) (h : Hh) : R (List D) := if p = true then (evE l e σ1 h).bind fun x h' => (compE l e tg c [] ds σ h').bind fun xs h'' => .ok (x :: xs) h'' else compE l e tg c [] ds σ h
theorem it_s {rr : R (List D)} (k : isNo c = false) (t : target h tg d (killAll σ tg) = some σ1) (e1 : evE l c σ1 h = .ok (.bl p) h1) (k2 : itK l tg e c σ ds p σ1 h1 = rr) : compE l e tg c [] (d :: ds) σ h = rr := by
  rw [← k2]
  unfold compE itK compE
  simp only [compL, ifW, watch_nil, if_true, k]
  simp only [itemK, bindT, t, Bool.false_eq_true, if_false, e1, R.bind_ok, boolV]
  cases p with
  | true =>
    simp only [if_true]
    cases evE l e σ1 h1 with
    | ok a g => simp only [R.bind_ok]
    | ex _ _ _ => rfl
    | bad => rfl
  | false =>
    simp only [Bool.false_eq_true, if_false, R.bind_ok]
    generalize compL [] (itemK tg σ false (evE l c) (evE l e)) ds h1 = X
    cases X <;> rfl
theorem it_t {xs : List D} (t : p = true) (e1 : evE l e σ1 h = .ok x h1) (e2 : compE l e tg c [] ds σ h1 = .ok xs h2) : itK l tg e c σ ds p σ1 h = .ok (x :: xs) h2 := by
  unfold itK; subst t; simp only [if_true, e1, R.bind_ok, e2]
theorem it_f {rr : R (List D)} (t : p = false) (e2 : compE l e tg c [] ds σ h = rr) : itK l tg e c σ ds p σ1 h = rr := by
  unfold itK; subst t; simpa using e2
theorem it_n {xs : List D} (t : target h tg d (killAll σ tg) = some σ1) (e1 : evE l e σ1 h = .ok x h1) (e2 : compE l e tg .no [] ds σ h1 = .ok xs h2) : compE l e tg .no [] (d :: ds) σ h = .ok (x :: xs) h2 := ccons (item_n t e1) e2
end
/-! what stands at a goal's head -/
section
variable {l tg kill : List Nat} {σ σ1 : Sg} {h h1 : Hh} {x y z : D} {ds : List D} {w : Wt}
theorem hd_E {e : E} {r : R D} (k : evE l e σ h = r) : evE l e σ h = r := k
theorem hd_and {a b : E} {r : R D} (k : evE l (.and a b) σ h = r) : evE l (.and a b) σ h = r := k
theorem hd_or {a b : E} {r : R D} (k : evE l (.or a b) σ h = r) : evE l (.or a b) σ h = r := k
theorem hd_ite {a b c : E} {r : R D} (k : evE l (.ite c a b) σ h = r) : evE l (.ite c a b) σ h = r := k
theorem hd_L {e : EL} {r : R (List D)} (k : evL l e σ h = r) : evL l e σ h = r := k
theorem hd_I {e : It} {r : R (List D × Wt)} (k : evI l e σ h = r) : evI l e σ h = r := k
theorem hd_X {e : SL} {r : R Fl} (k : exL l e σ h = r) : exL l e σ h = r := k
theorem hd_if {c : E} {a b ss : SL} {r : R Fl} (k : exL l (.cons (.ite c a b) ss) σ h = r) : exL l (.cons (.ite c a b) ss) σ h = r := k
theorem hd_for {src : It} {b ss : SL} {r : R Fl} (k : exL l (.cons (.for_ tg src b kill) ss) σ h = r) : exL l (.cons (.for_ tg src b kill) ss) σ h = r := k
theorem hd_try {hs : HL} {b ss : SL} {r : R Fl} (k : exL l (.cons (.try_ b hs) ss) σ h = r) : exL l (.cons (.try_ b hs) ss) σ h = r := k
theorem hd_sel {α : Type} {p : Bool} {X Y r : R α} (k : selK p X Y = r) : selK p X Y = r := k
theorem hd_it {a c : E} {p : Bool} {rr : R (List D)} (k : itK l tg a c σ ds p σ1 h = rr) : itK l tg a c σ ds p σ1 h = rr := k
theorem lf_call {f : Fn} {r : R D} (e : callF l f ds h = r) : callF l f ds h = r := e
theorem lf_comp {a c : E} {r : R (List D)} (e : compE l a tg c w ds σ h = r) : compE l a tg c w ds σ h = r := e
theorem lf_for {b : SL} {r : R Fl} (e : forE l tg b kill w ds σ h = r) : forE l tg b kill w ds σ h = r := e
theorem lf_while {c : E} {b : SL} {r : R Fl} (e : whileE l c b kill σ h = r) : whileE l c b kill σ h = r := e
theorem lf_get {σ : Sg} {i : Nat} {r : Option (Option D)} (e : σ[i]? = r) : σ[i]? = r := e
theorem lf_sg {σ σ1 : Sg} (e : σ = σ1) : σ = σ1 := e
theorem lf_ix {r : R D} (e : ixV h x y = r) : ixV h x y = r := e
theorem lf_cop {o : Cop} {r : R D} (e : cop o h x y = r) : cop o h x y = r := e
theorem lf_bop {o : Bop} {r : R D} (e : bop o h x y = r) : bop o h x y = r := e
theorem lf_blt {o : Blt} {r : R D} (e : blt o h ds = r) : blt o h ds = r := e
theorem lf_isin {ts : List Ty} {r : R D} (e : isinV ts h x = r) : isinV ts h x = r := e
theorem lf_src {r : Option (List D × Wt)} (e : srcOf h x = r) : srcOf h x = r := e
theorem lf_len {n m : Nat} (e : n ≤ m) : n ≤ m := e
theorem lf_len2 {n m : Nat} (e : n = m) : n = m := e
theorem lf_tg {r : Option Sg} (e : target h tg x σ = r) : target h tg x σ = r := e
theorem lf_sl {i j : Option Int} {r : R D} (e : slV h x i j = r) : slV h x i j = r := e
theorem lf_isNo {e : E} {b : Bool} (k : isNo e = b) : isNo e = b := k
theorem lf_bm {m : Bm} {r : R D} (e : bm m l h x ds = r) : bm m l h x ds = r := e
theorem lf_rg {a b : Int} {k : Bool} (e : rgOk a b = k) : rgOk a b = k := e
theorem lf_recv {t : String} {k : Bool} (e : recv t h x = k) : recv t h x = k := e
theorem lf_tup {k : Bool} (e : isTup x = k) : isTup x = k := e
theorem lf_isB {b : Bool} {r : R D} (e : isBV b h x = r) : isBV b h x = r := e
theorem lf_notB {b : Bool} {r : R D} (e : notBV b h x = r) : notBV b h x = r := e
theorem lf_xfld {f : String} {r : R D} (e : xfldV f h x = r) : xfldV f h x = r := e
theorem lf_item {b : Bool} {f g : Sg → Hh → R D} {r : R (Option D)} (e : itemK tg σ b f g x h = r) : itemK tg σ b f g x h = r := e
theorem lf_seq {r : Option (List D)} (e : seqOf h x = r) : seqOf h x = r := e
theorem lf_set {r : R Unit} (e : setItem l h x y z = r) : setItem l h x y z = r := e
theorem lf_setAll {r : Option Sg} (e : setAll σ tg ds = r) : setAll σ tg ds = r := e
end
end W
end Mp

set_option maxRecDepth 100000
set_option maxHeartbeats 4000000
set_option exponentiation.threshold 10000
/-! Mv0: small things on loops, lists, cuts. -/
namespace Mp
open PySem
local macro_rules | `(tactic| walk_at "w") => `(tactic| repeat walk_at "w1")
local macro_rules | `(tactic| walk_at "w!") => `(tactic| (walk_at "w"; done))
local macro_rules | `(tactic| walk_at "hyp") => `(tactic| first | with_reducible assumption | (apply_assumption (transparency := .reducible) -exfalso -symm only [*]))
local macro_rules | `(tactic| walk_at "tf") => `(tactic| first | exact rfl | assumption | walk_at "tf2")
local macro_rules | `(tactic| walk_at "tf2") => `(tactic| first | (simp only [decide_eq_true_eq, decide_eq_false_iff_not, Bool.and_eq_true, Bool.or_eq_true, Bool.and_eq_false_iff, Bool.or_eq_false_iff, Bool.not_eq_true', Bool.not_eq_false', Bool.not_eq_eq_eq_not, Bool.not_true, Bool.not_false, beq_iff_eq, beq_eq_false_iff_ne, List.length_cons, List.length_nil] <;> omega) | (simp only [*]; done))
local macro_rules | `(tactic| walk_at "len") => `(tactic| first | assumption | exact Nat.le_of_ble_eq_true rfl | omega | (simp only [ratL, iD, List.length_take, List.length_map, List.length_range, List.length_range', List.length_cons, List.length_nil, List.length_append, List.length_replicate, List.length_set]; omega))
local macro_rules | `(tactic| walk_at "sg") => `(tactic| first | ((simp only [killAll, List.set_cons_zero, List.set_cons_succ, asSet, asGone]) <;> rfl) | rfl)
local macro_rules | `(tactic| walk_at "sgf") => `(tactic| first | ((simp only [List.map_cons, List.map_nil, List.replicate_succ, List.replicate_zero, List.cons_append, List.nil_append, Nat.reduceSub]) <;> rfl) | rfl)
local macro_rules | `(tactic| walk_at "tg") => `(tactic| first | walk_at "hyp" | ((simp only [target, setAll, killAll, List.set_cons_zero, List.set_cons_succ]) <;> rfl) | rfl)
local macro_rules | `(tactic| walk_at "cop") => `(tactic| first | walk_at "hyp" | with_reducible (first | exact cop_eq _ _ _ | exact cop_ne _ _ _ | exact cop_lt _ _ _ | exact cop_le _ _ _ | exact cop_gt _ _ _ | exact cop_ge _ _ _ | exact cop_eqb _ _ _ | exact cop_neb _ _ _))
local macro_rules | `(tactic| walk_at "bop") => `(tactic| first | with_reducible (first | exact bop_add _ _ _ | exact bop_sub _ _ _) | walk_at "hyp" | ((with_reducible first | apply W.add_lst | apply W.add_tup); (focus (walk_at "len")); (focus (first | ((simp only [List.cons_append, List.nil_append]) <;> rfl) | rfl))) | (with_reducible refine bop_mul _ ?_ ?_ <;> assumption))
local macro_rules | `(tactic| walk_at "blt") => `(tactic| first | walk_at "hyp" | with_reducible (first | exact blt_lenT _ _ | exact blt_lenL _ _ | exact blt_abs _ _ | exact W.blt_inR2 | exact W.blt_inR1))
local macro_rules | `(tactic| walk_at "leaf") => `(tactic| first | ((with_reducible apply W.lf_call); walk_at "hyp") | ((with_reducible apply W.lf_comp); walk_at "hyp") | ((with_reducible apply W.lf_for); walk_at "hyp") | ((with_reducible apply W.lf_while); walk_at "hyp") | ((with_reducible apply W.lf_get); exact rfl) | ((with_reducible apply W.lf_sg); walk_at "sg") | ((with_reducible apply W.lf_ix); first | walk_at "hyp" | exact rfl) | ((with_reducible apply W.lf_cop); walk_at "cop") | ((with_reducible apply W.lf_bop); walk_at "bop") | ((with_reducible apply W.lf_blt); walk_at "blt") | ((with_reducible apply W.lf_isin); first | walk_at "hyp" | exact rfl) | ((with_reducible apply W.lf_src); first | walk_at "hyp" | exact rfl) | ((with_reducible apply W.lf_len); walk_at "len") | ((with_reducible apply W.lf_len2); first | exact rfl | (simp [excF]; done)) | ((with_reducible apply W.lf_tg); walk_at "tg") | ((with_reducible apply W.lf_sl); first | walk_at "hyp" | exact rfl) | ((with_reducible apply W.lf_isNo); exact rfl) | ((with_reducible apply W.lf_bm); walk_at "hyp") | ((with_reducible apply W.lf_rg); first | assumption | exact rgOk_nat (by omega) | exact rgOk_sm (by omega) (by omega) (by omega) (by omega) | decide) | ((with_reducible apply W.lf_recv); first | assumption | exact recv_ref (by assumption) | exact rfl) | ((with_reducible apply W.lf_tup); exact rfl) | ((with_reducible apply W.lf_isB); first | walk_at "hyp" | exact rfl) | ((with_reducible apply W.lf_notB); exact rfl) | ((with_reducible apply W.lf_xfld); first | walk_at "hyp" | exact rfl) | ((with_reducible apply W.lf_item); walk_at "hyp") | ((with_reducible apply W.lf_vals); walk_at "hyp") | ((with_reducible apply W.lf_pick); first | walk_at "hyp" | exact rfl) | ((with_reducible apply W.lf_seq); first | walk_at "hyp" | exact rfl) | ((with_reducible apply W.lf_set); walk_at "hyp") | ((with_reducible apply W.lf_setAll); ((simp only [setAll, List.set_cons_zero, List.set_cons_succ]) <;> rfl)))
local macro_rules | `(tactic| walk_at "w1") => `(tactic| first | ((with_reducible apply W.hd_E); walk_at "wE") | ((with_reducible apply W.hd_X); first | walk_at "wX" | ((with_reducible apply W.try_s); (first | (focus (walk_at "w!")) | (focus (walk_at "wx!"))))) | ((with_reducible apply W.hd_L); with_reducible (first | apply W.lcons | exact W.lnil)) | walk_at "leaf" | ((with_reducible apply W.hd_I); with_reducible (first | apply W.seq | apply W.rg1 | apply W.rg2 | apply W.enum | apply W.zip)) | walk_at "wK")
local macro_rules | `(tactic| walk_at "wK") => `(tactic| first | ((with_reducible apply W.hd_sel); first | ((with_reducible apply W.sel_t); (focus (walk_at "tf"))) | ((with_reducible apply W.sel_f); (focus (walk_at "tf"))) | with_reducible (first | apply W.and_b | apply W.or_b)) | with_reducible (first | exact W.r_rfl | apply W.fl_nx | exact W.fl_rt | exact W.fl_xc | apply W.fo_nx | exact W.fo_rt | exact W.fo_xc | apply W.tr_nx | exact W.tr_rt) | ((with_reducible apply W.tr_c); (focus (walk_at "exc")); (focus (walk_at "w!")); (focus (walk_at "w!")); (focus (walk_at "w!"))) | ((with_reducible apply W.tr_c_rt); (focus (walk_at "exc")); (focus (walk_at "w!")); (focus (walk_at "w!"))) | ((with_reducible apply W.tr_n); (focus (walk_at "exn"))) | with_reducible (first | apply W.tu_nx | exact W.tu_rt | exact W.tu_xc) | ((with_reducible apply W.hd_it); first | ((with_reducible apply W.it_t); (focus (walk_at "tf"))) | ((with_reducible apply W.it_f); (focus (walk_at "tf")))) | with_reducible (first | apply W.fo_s | exact W.fnil | exact W.cnil | apply W.it_n) | ((with_reducible apply W.it_s); (focus exact rfl)))
local macro_rules | `(tactic| walk_at "wE") => `(tactic| first | ((with_reducible apply W.var); first | exact rfl | assumption) | ((with_reducible apply W.hd_ite); walk_at "hyp") | ((with_reducible apply W.hd_or); walk_at "hyp") | ((with_reducible apply W.hd_and); walk_at "hyp") | with_reducible (first | exact W.cst | apply W.ix | apply W.call | apply W.cmp | apply W.bop' | apply W.blt' | apply W.tup | apply W.not' | exact W.glob | apply W.isin | apply W.comp | apply W.lst | apply W.chain | apply W.and_s | apply W.or_s | apply W.ite_s | exact W.no | apply W.neg | apply W.isN | apply W.notN | apply W.isB | apply W.notB | apply W.sl_hi | apply W.sl_lo | apply W.sl_lh | apply W.rev | apply W.alloc | apply W.vals | apply W.pick | apply W.xfld | apply W.bm' | apply W.mkx))
local macro_rules | `(tactic| walk_at "wX") => `(tactic| with_reducible (first | apply W.set | exact W.nil | apply W.ap_cons | apply W.ap_nil | apply W.ret | apply W.if_s | apply W.ex | apply W.pass | apply W.for_s | apply W.kill' | apply W.par | apply W.unp | apply W.ixSet | apply W.raise | apply W.while_s))
local macro_rules | `(tactic| walk_at "fn") => `(tactic| (apply W.fn0; (focus exact rfl); (focus exact Nat.le_of_ble_eq_true rfl); (focus (walk_at "sgf"))))
local macro_rules | `(tactic| walk_at "exc") => `(tactic| first | assumption | (simp [excSub, above]; done))
local macro_rules | `(tactic| walk_at "wxe") => `(tactic| first | ((with_reducible (first | apply W.tup_x | apply W.lst_x | apply W.ix_x | apply W.not_x | apply W.isB_x | apply W.notB_x | apply W.isN_x | apply W.blt_x)); walk_at "wxe") | ((with_reducible apply W.lcons_x); (focus (walk_at "wxe"; done))) | ((with_reducible apply W.lcons_x2); (focus (walk_at "w!")); (focus (walk_at "wxe"; done))) | ((with_reducible apply W.cmp_x); (focus (walk_at "wxe"; done))) | ((with_reducible apply W.bop_x); (focus (walk_at "wxe"; done))) | ((with_reducible apply W.cmp_x2); (focus (walk_at "w!")); (focus (walk_at "wxe"; done))) | ((with_reducible apply W.bop_x2); (focus (walk_at "w!")); (focus (walk_at "wxe"; done))) | ((with_reducible apply W.call_x); (focus (walk_at "w!")); (focus (walk_at "hyp"))) | ((with_reducible apply W.call_xa); (focus (walk_at "wxe"; done))))
local macro_rules | `(tactic| walk_at "wx") => `(tactic| repeat (first | ((with_reducible apply W.set_x); (focus (walk_at "wxe"; done))) | ((with_reducible apply W.ex_x); (focus (walk_at "wxe"; done))) | ((with_reducible apply W.ret_x); (focus (walk_at "wxe"; done))) | ((with_reducible apply W.if_x); (focus (walk_at "wxe"; done))) | ((with_reducible apply W.unp_x); (focus (walk_at "wxe"; done))) | walk_at "w1"))
local macro_rules | `(tactic| walk_at "wx!") => `(tactic| (walk_at "wx"; done))
local macro_rules | `(tactic| walk_at "wl") => `(tactic| walk_at "w")
local macro_rules | `(tactic| walk_at "exn") => `(tactic| first | assumption | (simp [excSub, above]; done))
local macro_rules | `(tactic| walk_at "wl!") => `(tactic| (walk_at "wl"; done))
local macro_rules | `(tactic| walk_at "fnx") => `(tactic| (apply W.fn_xc; (focus exact rfl); (focus exact Nat.le_of_ble_eq_true rfl); (focus (walk_at "sgf"))))
local macro_rules | `(tactic| walk_at "fin") => `(tactic| first | with_reducible (first | exact fin_int rfl | exact fin_bl rfl | exact P.fin_rat rfl) | (apply W.fin_und; (focus (first | rfl | assumption | walk_at "hyp" | exact und_rat _ _ | (simp [D.und, D.unds, und_rat]; done))); (focus (first | exact W.take_same | exact W.take_set | exact W.take_app))))
local macro_rules | `(tactic| walk_at "all") => `(tactic| (walk_at "fn"; (focus (walk_at "w!")); (walk_at "fin")))
local macro_rules | `(tactic| walk_at "allx") => `(tactic| (walk_at "fnx"; (focus (walk_at "wx!")); (focus (first | rfl | (simp [D.und, D.unds, und_rat]; done))); (focus (first | exact W.take_same | exact W.take_app))))
local macro_rules | `(tactic| walk_at "turn") => `(tactic| (apply W.turn_s; walk_at "w!"))
local macro_rules | `(tactic| walk_at "turn_rt") => `(tactic| (apply W.turn_rt; (focus (walk_at "tg")); (focus (walk_at "w!"))))
local macro_rules | `(tactic| walk_at "wh") => `(tactic| repeat (first | ((with_reducible apply W.hd_X); walk_at "hyp") | walk_at "w1"))
local macro_rules | `(tactic| walk_at "turnh") => `(tactic| (apply W.turn_s; (focus (walk_at "tg")); walk_at "wh"; done))
local macro_rules | `(tactic| walk_at "turnx") => `(tactic| (apply W.turn_xc; (focus (walk_at "tg")); (focus (walk_at "wx!"))))
theorem sz_nat {m n : Nat} (h : m < 2 ^ n) (h1 : 0 < n) : Sz n (m : Rat) := ⟨by simpa using h, by simpa using Nat.one_lt_two_pow (by omega)⟩
theorem ratL_map {α : Type} (f : α → Rat) (xs : List α) : ratL (xs.map f) = xs.map fun x => ratD (f x) := by unfold ratL; rw [List.map_map]; rfl
theorem len_mL {α : Type} {enc : α → D} {F : List α} {hh : Hh} : blt .len hh [.lst (F.map enc)] = .ok (.int (F.length : Nat)) hh := by rw [blt_lenL, List.length_map]
theorem len_mT {α : Type} {enc : α → D} {F : List α} {hh : Hh} : blt .len hh [.tup (F.map enc)] = .ok (.int (F.length : Nat)) hh := by rw [blt_lenT, List.length_map]
theorem ix0L {x : D} {xs : List D} (hh : Hh) : ixV hh (.lst (x :: xs)) (.int 0) = .ok x hh := ixV_lst (atD_nat (i := 0) (by simp))
theorem ix0T {x : D} {xs : List D} (hh : Hh) : ixV hh (.tup (x :: xs)) (.int 0) = .ok x hh := ixV_tup (atD_nat (i := 0) (by simp))
theorem cut_take {α : Type} (xs : List α) (n : Nat) : cut xs none (some (n : Int)) = xs.take n := by
  unfold cut
  have e : cutIx xs.length xs.length (some (n : Int)) = min n xs.length := by
    show (if (n : Int) < 0 then ((n : Int) + (xs.length : Int)).toNat else min (n : Int).toNat xs.length) = _
    rw [if_neg (by omega)]
    rfl
  rw [e]
  show (xs.drop 0).take (min n xs.length - 0) = _
  rw [List.drop_zero, Nat.sub_zero]
  by_cases c : n ≤ xs.length
  · rw [Nat.min_eq_left c]
  · rw [Nat.min_eq_right (by omega), List.take_of_length_le (Nat.le_refl _), List.take_of_length_le (by omega)]
theorem num_pos {q : Rat} : 0 < q.num ↔ 0 < q := by
  constructor
  · intro h
    by_cases c : 0 < q
    · exact c
    · have : 0 ≤ (-q).num := Rat.num_nonneg.mpr (by grind)
      have e : (-q).num = -q.num := rfl
      rw [e] at this
      omega
  · intro h
    have := Rat.num_nonneg.mpr (Rat.le_of_lt h)
    by_cases z : q.num = 0
    · rw [Rat.num_eq_zero.mp z] at h
      exact absurd h (by decide)
    · omega
/-- truths in a list -/
theorem pys_b (h : Hh) : ∀ F : List Bool, D.pys h (F.map D.bl) = some (F.map PyData.bool)
  | [] => rfl
  | x :: F => by simp [D.pys, D.py, pys_b h F]
theorem shp_b (F : List Bool) : SeqAt.shaped (.list (F.map PyData.bool)) = true := by
  have a : ∀ F : List Bool, PyData.canLayAll0 (F.map PyData.bool) = true := fun F => by
    induction F with
    | nil => simp [PyData.canLayAll0]
    | cons x F ih => simp [PyData.canLayAll0, PyData.canLay0, ih]
  have b : ∀ F : List Bool, PyData.depthAll (F.map PyData.bool) = 0 := fun F => by
    induction F with
    | nil => simp [PyData.depthAll]
    | cons x F ih => simp [PyData.depthAll, PyData.depth, ih]
  simp [SeqAt.shaped, PyData.canLay0, PyData.depth, a, b]
theorem inn_b {h : Hh} (c : Bool) (F : List Bool) : cop .inn h (.bl c) (.lst (F.map D.bl)) = .ok (.bl (F.any fun x => x == c)) h := by
  have p := pys_b h F
  have a : ((F.map PyData.bool).any fun z => PyData.eqv z (.bool c)) = F.any fun x => x == c := by
    rw [List.any_map]
    simp [Function.comp_def, eqv_bl]
  simp only [cop, D.py, Mp.seqOf, Mp.listOf, lstOf, Option.bind_some, p, shaped_bl, shp_b, Bool.and_self, if_true, a]
/-- a loop that stops at the first one that is not so -/
def isNx : Fl → Bool
  | .nx _ => true
  | _ => false
def firstK (ok : Nat → Bool) (fl : Nat → Fl) (σ : Sg) (h : Hh) (xs : List Nat) : R Fl := match xs.find? (fun k => !ok k) with
  | none => .ok (.nx σ) h
  | some k => .ok (fl k) h
theorem forE_find {l tg kill : List Nat} {body : SL} {σ : Sg} {h : Hh} (enc : Nat → D) (ok : Nat → Bool) (fl : Nat → Fl) (hfl : ∀ k, isNx (fl k) = false) : ∀ (xs : List Nat), (∀ k ∈ xs, ok k = true → turnK tg kill (exL l body) (enc k) σ h = .ok (.nx σ) h) → (∀ k ∈ xs, ok k = false → turnK tg kill (exL l body) (enc k) σ h = .ok (fl k) h) → forE l tg body kill [] (xs.map enc) σ h = firstK ok fl σ h xs
  | [], _, _ => forE_nil
  | x :: xs, h1, h2 => by
    rw [List.map_cons]
    unfold firstK
    cases e : ok x with
    | true =>
      rw [List.find?_cons_of_neg (by simp [e]), forE_cons (h1 x (by simp) e)]
      exact forE_find enc ok fl hfl xs (fun k hk => h1 k (by simp [hk])) (fun k hk => h2 k (by simp [hk]))
    | false =>
      rw [List.find?_cons_of_pos (by simp [e])]
      have t := h2 x (by simp) e
      have n := hfl x
      show forE l tg body kill [] (enc x :: xs.map enc) σ h = .ok (fl x) h
      cases f : fl x with
      | nx s => rw [f] at n; cases n
      | rt d => rw [f] at t; exact W.fstop t
      | xc n fs s => rw [f] at t; exact W.fstop_x t
theorem enum_range (ys : List D) : enumD ys = (List.range ys.length).map fun (k : Nat) => D.tup [.int (k : Int), ys.getD k .non] := by
  unfold enumD
  apply List.ext_getElem
  · simp
  · intro k h1 h2
    have hk : k < ys.length := by simpa using h1
    simp [List.getD, hk]
theorem map_range {α : Type} (e : α → D) (z : α) (xs : List α) : xs.map e = (List.range xs.length).map fun (k : Nat) => e (xs.getD k z) := by
  apply List.ext_getElem
  · simp
  · intro k h1 h2
    have hk : k < xs.length := by simpa using h1
    simp [List.getD, hk]
theorem enum_enc {α : Type} (e : α → D) (z : α) (xs : List α) : enumD (xs.map e) = (List.range xs.length).map fun (k : Nat) => D.tup [.int (k : Int), e (xs.getD k z)] := by
  unfold enumD
  apply List.ext_getElem
  · simp
  · intro k h1 h2
    have hk : k < xs.length := by simpa using h1
    simp [List.getD, hk]
theorem getD_mem {α : Type} {xs : List α} {k : Nat} (z : α) (h : k < xs.length) : xs.getD k z ∈ xs := by
  have : xs.getD k z = xs[k] := by simp [List.getD, h]
  rw [this]; exact List.getElem_mem h
theorem ix_mL {α : Type} {e : α → D} (z : α) {xs : List α} {k : Nat} (hk : k < xs.length) (hh : Hh) : ixV hh (.lst (xs.map e)) (.int (k : Int)) = .ok (e (xs.getD k z)) hh := ixV_lst (by
  rw [atD_nat (by rw [List.length_map]; exact hk), List.getElem_map]
  simp [List.getD, hk])
theorem ix_mT {α : Type} {e : α → D} (z : α) {xs : List α} {k : Nat} (hk : k < xs.length) (hh : Hh) : ixV hh (.tup (xs.map e)) (.int (k : Int)) = .ok (e (xs.getD k z)) hh := ixV_tup (by
  rw [atD_nat (by rw [List.length_map]; exact hk), List.getElem_map]
  simp [List.getD, hk])
theorem cutIx_nat {n d v : Nat} : cutIx n d (some (v : Int)) = min v n := by
  show (if (v : Int) < 0 then ((v : Int) + (n : Int)).toNat else min (v : Int).toNat n) = _
  rw [if_neg (by omega)]
  rfl
theorem cut_mid {α : Type} (xs : List α) {b e : Nat} (h1 : b ≤ e) (h2 : e ≤ xs.length) : cut xs (some (b : Int)) (some (e : Int)) = (xs.drop b).take (e - b) := by
  unfold cut
  rw [cutIx_nat, cutIx_nat, Nat.min_eq_left h2, Nat.min_eq_left (Nat.le_trans h1 h2)]
theorem cut_lo {α : Type} (xs : List α) (n : Nat) : cut xs (some (n : Int)) none = xs.drop n := by
  unfold cut
  rw [cutIx_nat]
  show (xs.drop (min n xs.length)).take (xs.length - min n xs.length) = _
  by_cases c : n ≤ xs.length
  · rw [Nat.min_eq_left c, List.take_of_length_le (by rw [List.length_drop]; omega)]
  · rw [Nat.min_eq_right (by omega), List.drop_of_length_le (Nat.le_refl _), List.drop_of_length_le (by omega)]
    simp
theorem atD_last {α : Type} {xs : List α} (ne : xs ≠ []) : atD xs (-1) = some (xs.getLast ne) := by
  have l0 : 0 < xs.length := List.length_pos_iff.mpr ne
  have e : ixAt xs.length (-1) = some (xs.length - 1) := by
    unfold ixAt
    rw [if_neg (by decide), if_pos (by omega)]
    congr 1
    omega
  unfold atD
  rw [e, Option.bind_some, List.getElem?_eq_getElem (by omega), List.getLast_eq_getElem]
theorem ix_lastL {α : Type} {e : α → D} {xs : List α} (ne : xs ≠ []) (hh : Hh) : ixV hh (.lst (xs.map e)) (.int (-1)) = .ok (e (xs.getLast ne)) hh := ixV_lst (by
  have n2 : xs.map e ≠ [] := by simpa using ne
  rw [atD_last n2, List.getLast_map])
theorem ix_lastT {α : Type} {e : α → D} {xs : List α} (ne : xs ≠ []) (hh : Hh) : ixV hh (.tup (xs.map e)) (.int (-1)) = .ok (e (xs.getLast ne)) hh := ixV_tup (by
  have n2 : xs.map e ≠ [] := by simpa using ne
  rw [atD_last n2, List.getLast_map])
theorem rg_range (n : Nat) : rg 0 (n : Int) = (List.range n).map fun (k : Nat) => D.int (k : Int) := by unfold rg; simp

end Mp

set_option maxRecDepth 100000
set_option maxHeartbeats 1000000
set_option exponentiation.threshold 10000
/-! Mv1: any plain things; which are ratios. -/
namespace Mp
open PySem
local macro_rules | `(tactic| walk_at "w") => `(tactic| repeat walk_at "w1")
local macro_rules | `(tactic| walk_at "w!") => `(tactic| (walk_at "w"; done))
local macro_rules | `(tactic| walk_at "hyp") => `(tactic| first | with_reducible assumption | (apply_assumption (transparency := .reducible) -exfalso -symm only [*]))
local macro_rules | `(tactic| walk_at "tf") => `(tactic| first | exact rfl | assumption | walk_at "tf2")
local macro_rules | `(tactic| walk_at "tf2") => `(tactic| first | (simp only [decide_eq_true_eq, decide_eq_false_iff_not, Bool.and_eq_true, Bool.or_eq_true, Bool.and_eq_false_iff, Bool.or_eq_false_iff, Bool.not_eq_true', Bool.not_eq_false', Bool.not_eq_eq_eq_not, Bool.not_true, Bool.not_false, beq_iff_eq, beq_eq_false_iff_ne, List.length_cons, List.length_nil] <;> omega) | (simp only [*]; done))
local macro_rules | `(tactic| walk_at "len") => `(tactic| first | assumption | exact Nat.le_of_ble_eq_true rfl | omega | (simp only [ratL, iD, List.length_take, List.length_map, List.length_range, List.length_range', List.length_cons, List.length_nil, List.length_append, List.length_replicate, List.length_set]; omega))
local macro_rules | `(tactic| walk_at "sg") => `(tactic| first | ((simp only [killAll, List.set_cons_zero, List.set_cons_succ, asSet, asGone]) <;> rfl) | rfl)
local macro_rules | `(tactic| walk_at "sgf") => `(tactic| first | ((simp only [List.map_cons, List.map_nil, List.replicate_succ, List.replicate_zero, List.cons_append, List.nil_append, Nat.reduceSub]) <;> rfl) | rfl)
local macro_rules | `(tactic| walk_at "tg") => `(tactic| first | walk_at "hyp" | ((simp only [target, setAll, killAll, List.set_cons_zero, List.set_cons_succ]) <;> rfl) | rfl)
local macro_rules | `(tactic| walk_at "cop") => `(tactic| first | walk_at "hyp" | with_reducible (first | exact cop_eq _ _ _ | exact cop_ne _ _ _ | exact cop_lt _ _ _ | exact cop_le _ _ _ | exact cop_gt _ _ _ | exact cop_ge _ _ _ | exact cop_eqb _ _ _ | exact cop_neb _ _ _))
local macro_rules | `(tactic| walk_at "bop") => `(tactic| first | with_reducible (first | exact bop_add _ _ _ | exact bop_sub _ _ _) | walk_at "hyp" | ((with_reducible first | apply W.add_lst | apply W.add_tup); (focus (walk_at "len")); (focus (first | ((simp only [List.cons_append, List.nil_append]) <;> rfl) | rfl))) | (with_reducible refine bop_mul _ ?_ ?_ <;> assumption))
local macro_rules | `(tactic| walk_at "blt") => `(tactic| first | walk_at "hyp" | with_reducible (first | exact blt_lenT _ _ | exact blt_lenL _ _ | exact blt_abs _ _ | exact W.blt_inR2 | exact W.blt_inR1))
local macro_rules | `(tactic| walk_at "leaf") => `(tactic| first | ((with_reducible apply W.lf_call); walk_at "hyp") | ((with_reducible apply W.lf_comp); walk_at "hyp") | ((with_reducible apply W.lf_for); walk_at "hyp") | ((with_reducible apply W.lf_while); walk_at "hyp") | ((with_reducible apply W.lf_get); exact rfl) | ((with_reducible apply W.lf_sg); walk_at "sg") | ((with_reducible apply W.lf_ix); first | walk_at "hyp" | exact rfl) | ((with_reducible apply W.lf_cop); walk_at "cop") | ((with_reducible apply W.lf_bop); walk_at "bop") | ((with_reducible apply W.lf_blt); walk_at "blt") | ((with_reducible apply W.lf_isin); first | walk_at "hyp" | exact rfl) | ((with_reducible apply W.lf_src); first | walk_at "hyp" | exact rfl) | ((with_reducible apply W.lf_len); walk_at "len") | ((with_reducible apply W.lf_len2); first | exact rfl | (simp [excF]; done)) | ((with_reducible apply W.lf_tg); walk_at "tg") | ((with_reducible apply W.lf_sl); first | walk_at "hyp" | exact rfl) | ((with_reducible apply W.lf_isNo); exact rfl) | ((with_reducible apply W.lf_bm); walk_at "hyp") | ((with_reducible apply W.lf_rg); first | assumption | exact rgOk_nat (by omega) | exact rgOk_sm (by omega) (by omega) (by omega) (by omega) | decide) | ((with_reducible apply W.lf_recv); first | assumption | exact recv_ref (by assumption) | exact rfl) | ((with_reducible apply W.lf_tup); exact rfl) | ((with_reducible apply W.lf_isB); first | walk_at "hyp" | exact rfl) | ((with_reducible apply W.lf_notB); exact rfl) | ((with_reducible apply W.lf_xfld); first | walk_at "hyp" | exact rfl) | ((with_reducible apply W.lf_item); walk_at "hyp") | ((with_reducible apply W.lf_vals); walk_at "hyp") | ((with_reducible apply W.lf_pick); first | walk_at "hyp" | exact rfl) | ((with_reducible apply W.lf_seq); first | walk_at "hyp" | exact rfl) | ((with_reducible apply W.lf_set); walk_at "hyp") | ((with_reducible apply W.lf_setAll); ((simp only [setAll, List.set_cons_zero, List.set_cons_succ]) <;> rfl)))
local macro_rules | `(tactic| walk_at "w1") => `(tactic| first | ((with_reducible apply W.hd_E); walk_at "wE") | ((with_reducible apply W.hd_X); first | walk_at "wX" | ((with_reducible apply W.try_s); (first | (focus (walk_at "w!")) | (focus (walk_at "wx!"))))) | ((with_reducible apply W.hd_L); with_reducible (first | apply W.lcons | exact W.lnil)) | walk_at "leaf" | ((with_reducible apply W.hd_I); with_reducible (first | apply W.seq | apply W.rg1 | apply W.rg2 | apply W.enum | apply W.zip)) | walk_at "wK")
local macro_rules | `(tactic| walk_at "wK") => `(tactic| first | ((with_reducible apply W.hd_sel); first | ((with_reducible apply W.sel_t); (focus (walk_at "tf"))) | ((with_reducible apply W.sel_f); (focus (walk_at "tf"))) | with_reducible (first | apply W.and_b | apply W.or_b)) | with_reducible (first | exact W.r_rfl | apply W.fl_nx | exact W.fl_rt | exact W.fl_xc | apply W.fo_nx | exact W.fo_rt | exact W.fo_xc | apply W.tr_nx | exact W.tr_rt) | ((with_reducible apply W.tr_c); (focus (walk_at "exc")); (focus (walk_at "w!")); (focus (walk_at "w!")); (focus (walk_at "w!"))) | ((with_reducible apply W.tr_c_rt); (focus (walk_at "exc")); (focus (walk_at "w!")); (focus (walk_at "w!"))) | ((with_reducible apply W.tr_n); (focus (walk_at "exn"))) | with_reducible (first | apply W.tu_nx | exact W.tu_rt | exact W.tu_xc) | ((with_reducible apply W.hd_it); first | ((with_reducible apply W.it_t); (focus (walk_at "tf"))) | ((with_reducible apply W.it_f); (focus (walk_at "tf")))) | with_reducible (first | apply W.fo_s | exact W.fnil | exact W.cnil | apply W.it_n) | ((with_reducible apply W.it_s); (focus exact rfl)))
local macro_rules | `(tactic| walk_at "wE") => `(tactic| first | ((with_reducible apply W.var); first | exact rfl | assumption) | ((with_reducible apply W.hd_ite); walk_at "hyp") | ((with_reducible apply W.hd_or); walk_at "hyp") | ((with_reducible apply W.hd_and); walk_at "hyp") | with_reducible (first | exact W.cst | apply W.ix | apply W.call | apply W.cmp | apply W.bop' | apply W.blt' | apply W.tup | apply W.not' | exact W.glob | apply W.isin | apply W.comp | apply W.lst | apply W.chain | apply W.and_s | apply W.or_s | apply W.ite_s | exact W.no | apply W.neg | apply W.isN | apply W.notN | apply W.isB | apply W.notB | apply W.sl_hi | apply W.sl_lo | apply W.sl_lh | apply W.rev | apply W.alloc | apply W.vals | apply W.pick | apply W.xfld | apply W.bm' | apply W.mkx))
local macro_rules | `(tactic| walk_at "wX") => `(tactic| with_reducible (first | apply W.set | exact W.nil | apply W.ap_cons | apply W.ap_nil | apply W.ret | apply W.if_s | apply W.ex | apply W.pass | apply W.for_s | apply W.kill' | apply W.par | apply W.unp | apply W.ixSet | apply W.raise | apply W.while_s))
local macro_rules | `(tactic| walk_at "fn") => `(tactic| (apply W.fn0; (focus exact rfl); (focus exact Nat.le_of_ble_eq_true rfl); (focus (walk_at "sgf"))))
local macro_rules | `(tactic| walk_at "exc") => `(tactic| first | assumption | (simp [excSub, above]; done))
local macro_rules | `(tactic| walk_at "wxe") => `(tactic| first | ((with_reducible (first | apply W.tup_x | apply W.lst_x | apply W.ix_x | apply W.not_x | apply W.isB_x | apply W.notB_x | apply W.isN_x | apply W.blt_x)); walk_at "wxe") | ((with_reducible apply W.lcons_x); (focus (walk_at "wxe"; done))) | ((with_reducible apply W.lcons_x2); (focus (walk_at "w!")); (focus (walk_at "wxe"; done))) | ((with_reducible apply W.cmp_x); (focus (walk_at "wxe"; done))) | ((with_reducible apply W.bop_x); (focus (walk_at "wxe"; done))) | ((with_reducible apply W.cmp_x2); (focus (walk_at "w!")); (focus (walk_at "wxe"; done))) | ((with_reducible apply W.bop_x2); (focus (walk_at "w!")); (focus (walk_at "wxe"; done))) | ((with_reducible apply W.call_x); (focus (walk_at "w!")); (focus (walk_at "hyp"))) | ((with_reducible apply W.call_xa); (focus (walk_at "wxe"; done))))
local macro_rules | `(tactic| walk_at "wx") => `(tactic| repeat (first | ((with_reducible apply W.set_x); (focus (walk_at "wxe"; done))) | ((with_reducible apply W.ex_x); (focus (walk_at "wxe"; done))) | ((with_reducible apply W.ret_x); (focus (walk_at "wxe"; done))) | ((with_reducible apply W.if_x); (focus (walk_at "wxe"; done))) | ((with_reducible apply W.unp_x); (focus (walk_at "wxe"; done))) | walk_at "w1"))
local macro_rules | `(tactic| walk_at "wx!") => `(tactic| (walk_at "wx"; done))
local macro_rules | `(tactic| walk_at "wl") => `(tactic| walk_at "w")
local macro_rules | `(tactic| walk_at "exn") => `(tactic| first | assumption | (simp [excSub, above]; done))
local macro_rules | `(tactic| walk_at "wl!") => `(tactic| (walk_at "wl"; done))
local macro_rules | `(tactic| walk_at "fnx") => `(tactic| (apply W.fn_xc; (focus exact rfl); (focus exact Nat.le_of_ble_eq_true rfl); (focus (walk_at "sgf"))))
local macro_rules | `(tactic| walk_at "fin") => `(tactic| first | with_reducible (first | exact fin_int rfl | exact fin_bl rfl | exact P.fin_rat rfl) | (apply W.fin_und; (focus (first | rfl | assumption | walk_at "hyp" | exact und_rat _ _ | (simp [D.und, D.unds, und_rat]; done))); (focus (first | exact W.take_same | exact W.take_set | exact W.take_app))))
local macro_rules | `(tactic| walk_at "all") => `(tactic| (walk_at "fn"; (focus (walk_at "w!")); (walk_at "fin")))
local macro_rules | `(tactic| walk_at "allx") => `(tactic| (walk_at "fnx"; (focus (walk_at "wx!")); (focus (first | rfl | (simp [D.und, D.unds, und_rat]; done))); (focus (first | exact W.take_same | exact W.take_app))))
local macro_rules | `(tactic| walk_at "turn") => `(tactic| (apply W.turn_s; walk_at "w!"))
local macro_rules | `(tactic| walk_at "turn_rt") => `(tactic| (apply W.turn_rt; (focus (walk_at "tg")); (focus (walk_at "w!"))))
local macro_rules | `(tactic| walk_at "wh") => `(tactic| repeat (first | ((with_reducible apply W.hd_X); walk_at "hyp") | walk_at "w1"))
local macro_rules | `(tactic| walk_at "turnh") => `(tactic| (apply W.turn_s; (focus (walk_at "tg")); walk_at "wh"; done))
local macro_rules | `(tactic| walk_at "turnx") => `(tactic| (apply W.turn_xc; (focus (walk_at "tg")); (focus (walk_at "wx!"))))
namespace V
/-- plain things with whole numbers below 2 ^ N -/
inductive Any (N : Nat) : D → Prop
  | non : Any N .non
  | bl (b : Bool) : Any N (.bl b)
  | int {i : Int} : i.natAbs < 2 ^ N → Any N (.int i)
  | str {s : Str} : PyData.strOk s = true → Any N (.str s)
  | tup {ds : List D} : (∀ d ∈ ds, Any N d) → Any N (.tup ds)
  | lst {ds : List D} : (∀ d ∈ ds, Any N d) → Any N (.lst ds)
def wh : D → Bool
  | .int _ => true
  | _ => false
def isTp : D → Bool
  | .tup _ => true
  | _ => false
/-- the ratio that a thing is -/
def rat? : D → Option Rat
  | .tup [.int a, .int b] => if 0 < b ∧ Int.gcd a b = 1 then some (Rat.divInt a b) else none
  | _ => none
theorem rat?_pair (i j : Int) : rat? (.tup [.int i, .int j]) = if 0 < j ∧ Int.gcd i j = 1 then some (Rat.divInt i j) else none := rfl
theorem rat?_one (x : D) : rat? (.tup [x]) = none := by cases x <;> rfl
theorem rat?_more (x y z : D) (r : List D) : rat? (.tup (x :: y :: z :: r)) = none := by
  cases x <;> first
    | rfl
    | (cases y <;> rfl)
theorem mk_eq {a b : Int} (h0 : 0 < b) (h1 : Int.gcd a b = 1) : (Rat.divInt a b).num = a ∧ ((Rat.divInt a b).den : Int) = b := by
  obtain ⟨n, rfl⟩ : ∃ n : Nat, b = n := ⟨b.toNat, by omega⟩
  have nz : n ≠ 0 := by omega
  have c : Nat.Coprime a.natAbs n := h1
  have e := Rat.mk_eq_divInt (num := a) (den := n) (nz := nz) (c := c)
  rw [← e]
  exact ⟨rfl, rfl⟩
theorem rat?_some {d : D} {q : Rat} (h : rat? d = some q) : d = ratD q := by
  unfold rat? at h
  split at h
  · split at h
    · rename_i a b c
      cases h
      obtain ⟨e1, e2⟩ := mk_eq c.1 c.2
      unfold ratD
      rw [e1, e2]
    · cases h
  · cases h
theorem rat?_ratD (q : Rat) : rat? (ratD q) = some q := by
  have h0 : (0 : Int) < q.den := by have := q.den_nz; omega
  have h1 : Int.gcd q.num q.den = 1 := q.reduced
  unfold ratD
  rw [rat?_pair, if_pos ⟨h0, h1⟩, Rat.num_divInt_den]
theorem any_sz {N : Nat} {q : Rat} (a : Any N (ratD q)) : Sz N q := by
  unfold ratD at a
  cases a with
  | tup h =>
    have h1 := h (.int q.num) (by simp)
    have h2 := h (.int q.den) (by simp)
    cases h1 with
    | int h1 => cases h2 with
      | int h2 => exact ⟨h1, by simpa using h2⟩
theorem any_rat {N : Nat} {q : Rat} (s : Sz N q) : Any N (ratD q) := .tup fun d hd => by
  simp only [List.mem_cons, List.not_mem_nil, or_false] at hd
  rcases hd with rfl | rfl
  · exact .int s.1
  · exact .int (by simpa using s.2)
theorem Any.mono {N M : Nat} (h : N ≤ M) {d : D} (a : Any N d) : Any M d := by
  induction a with
  | non => exact .non
  | bl b => exact .bl b
  | int q => exact .int (Nat.lt_of_lt_of_le q (Nat.pow_le_pow_right (by decide) h))
  | str q => exact .str q
  | tup _ ih => exact .tup ih
  | lst _ ih => exact .lst ih
theorem Any.at {N : Nat} {ds : List D} (a : Any N (.tup ds)) : ∀ d ∈ ds, Any N d := by cases a with | tup h => exact h
noncomputable def F_is_whole : Fn := .mk 1 1 false
  (.cons (.ret (.and (.isin (.var 0) [.int]) (.not (.isin (.var 0) [.bool]))))
  .nil)
noncomputable def F_is_ratio : Fn := .mk 1 1 false
  (.cons (.ite (.or (.not (.isin (.var 0) [.tuple])) (.or (.cmp .ne (.blt .len (.cons (.var 0) .nil)) (.cst (.int 2))) (.or (.not (.call "is_whole" F_is_whole (.cons (.ix (.var 0) (.cst (.int 0))) .nil))) (.not (.call "is_whole" F_is_whole (.cons (.ix (.var 0) (.cst (.int 1))) .nil))))))
 (.cons (.ret (.cst (.bl false)))
  .nil)
 .nil)
  (.cons (.ret (.and (.cmp .gt (.ix (.var 0) (.cst (.int 1))) (.cst (.int 0))) (.cmp .eq (.call "divisor" P.F_divisor (.cons (.blt .abs (.cons (.ix (.var 0) (.cst (.int 0))) .nil)) (.cons (.ix (.var 0) (.cst (.int 1))) .nil))) (.cst (.int 1)))))
  .nil))
section
variable {N : Nat} {d : D}
theorem is_tup (a : Any N d) (hh : Hh) : isinV [.tuple] hh d = .ok (.bl (isTp d)) hh := by cases a <;> rfl
theorem whole_any (a : Any N d) : ∀ l h, callF l F_is_whole [d] h = .ok (.bl (wh d)) h := fun l h => by
  cases a <;> simp [F_is_whole, isinV, isAny, isTy, dTy, tyIs, wh, fin_bl]
theorem ratio_any (a : Any N d) : ∀ l h, callF l F_is_ratio [d] h = .ok (.bl (rat? d).isSome) h := fun l h => by
  cases a with
  | non => simp only [F_is_ratio]; walk_at "all"
  | bl b => simp only [F_is_ratio]; walk_at "all"
  | int q => simp only [F_is_ratio]; walk_at "all"
  | str q => simp only [F_is_ratio]; walk_at "all"
  | lst q => simp only [F_is_ratio]; walk_at "all"
  | @tup ds q =>
    match ds, q with
    | [], q => simp only [F_is_ratio]; walk_at "all"
    | [x], q => rw [rat?_one]; simp only [F_is_ratio]; walk_at "all"
    | x :: y :: z :: r, q =>
      have ln : ∀ hh, blt .len hh [.tup (x :: y :: z :: r)] = .ok (.int ((r.length : Int) + 3)) hh := fun hh => rfl
      have n2 : ∀ hh, cop .ne hh (.int ((r.length : Int) + 3)) (.int 2) = .ok (.bl true) hh := fun hh => by
        rw [cop_ne]
        have : ((r.length : Int) + 3 == 2) = false := by rw [beq_eq_false_iff_ne]; omega
        rw [this]; rfl
      simp only [F_is_ratio]
      have e : (rat? (.tup (x :: y :: z :: r))).isSome = false := by rw [rat?_more]; rfl
      rw [e]
      walk_at "all"
    | [x, y], q =>
      have ax := q x (by simp)
      have ay := q y (by simp)
      have wx := whole_any ax
      have wy := whole_any ay
      have i0 : ∀ hh, ixV hh (.tup [x, y]) (.int 0) = .ok x hh := fun _ => rfl
      have i1 : ∀ hh, ixV hh (.tup [x, y]) (.int 1) = .ok y hh := fun _ => rfl
      cases hx : wh x with
      | false =>
        have e : (rat? (.tup [x, y])).isSome = false := by cases ax <;> first | rfl | cases hx
        rw [e]
        rw [hx] at wx
        simp only [F_is_ratio]
        walk_at "all"
      | true =>
        cases hy : wh y with
        | false =>
          have e : (rat? (.tup [x, y])).isSome = false := by
            cases ax <;> first
              | (cases hx; done)
              | (cases ay <;> first | rfl | cases hy)
          rw [e]
          rw [hx] at wx
          rw [hy] at wy
          simp only [F_is_ratio]
          walk_at "all"
        | true =>
          obtain ⟨i, rfl⟩ : ∃ i, x = .int i := by cases ax <;> first | exact ⟨_, rfl⟩ | cases hx
          obtain ⟨j, rfl⟩ : ∃ j, y = .int j := by cases ay <;> first | exact ⟨_, rfl⟩ | cases hy
          have wx : ∀ l h, callF l F_is_whole [.int i] h = .ok (.bl true) h := wx
          have wy : ∀ l h, callF l F_is_whole [.int j] h = .ok (.bl true) h := wy
          by_cases hj : 0 < j
          · have dv := fun l hh => P.divisor_ok (l := l) (h := hh) (a := if i < 0 then -i else i) (b := j) (by split <;> omega) (by omega)
            have g : Int.gcd (if i < 0 then -i else i) j = Int.gcd i j := by split <;> simp
            rw [g] at dv
            have e : (rat? (.tup [.int i, .int j])).isSome = ((Int.gcd i j : Int) == 1) := by
              rw [rat?_pair]
              by_cases c : Int.gcd i j = 1
              · rw [if_pos ⟨hj, c⟩, c]; rfl
              · rw [if_neg (fun q => c q.2)]
                have : ((Int.gcd i j : Int) == 1) = false := by rw [beq_eq_false_iff_ne]; omega
                rw [this]; rfl
            rw [e]
            simp only [F_is_ratio]
            walk_at "all"
          · have e : (rat? (.tup [.int i, .int j])).isSome = false := by
              rw [rat?_pair, if_neg (fun q => hj q.1)]; rfl
            rw [e]
            simp only [F_is_ratio]
            walk_at "all"
end
/-! pairs of ratios -/
def opt2 : Option Rat → Option Rat → Option (Rat × Rat)
  | some p, some q => some (p, q)
  | _, _ => none
def pair? : D → Option (Rat × Rat)
  | .tup [a, b] => opt2 (rat? a) (rat? b)
  | _ => none
theorem pair?_two (a b : D) : pair? (.tup [a, b]) = opt2 (rat? a) (rat? b) := rfl
theorem pair?_some {d : D} {r : Rat × Rat} (h : pair? d = some r) : d = .tup [ratD r.1, ratD r.2] := by
  unfold pair? at h
  split at h
  · rename_i a b
    cases e1 : rat? a with
    | none => rw [e1] at h; cases h
    | some p =>
      cases e2 : rat? b with
      | none => rw [e1, e2] at h; cases h
      | some q =>
        rw [e1, e2] at h
        cases h
        rw [rat?_some e1, rat?_some e2]
  · cases h
theorem pair?_of (p q : Rat) : pair? (.tup [ratD p, ratD q]) = some (p, q) := by
  rw [pair?_two, rat?_ratD, rat?_ratD]; rfl
noncomputable def F_is_pair : Fn := .mk 1 1 false
  (.cons (.ret (.and (.isin (.var 0) [.tuple]) (.and (.cmp .eq (.blt .len (.cons (.var 0) .nil)) (.cst (.int 2))) (.and (.call "is_ratio" F_is_ratio (.cons (.ix (.var 0) (.cst (.int 0))) .nil)) (.call "is_ratio" F_is_ratio (.cons (.ix (.var 0) (.cst (.int 1))) .nil))))))
  .nil)
theorem is_pair_any {N : Nat} {d : D} (a : Any N d) : ∀ l h, callF l F_is_pair [d] h = .ok (.bl (pair? d).isSome) h := fun l h => by
  cases a with
  | non => simp only [F_is_pair]; walk_at "all"
  | bl b => simp only [F_is_pair]; walk_at "all"
  | int q => simp only [F_is_pair]; walk_at "all"
  | str q => simp only [F_is_pair]; walk_at "all"
  | lst q => simp only [F_is_pair]; walk_at "all"
  | @tup ds q =>
    match ds, q with
    | [], q => simp only [F_is_pair]; walk_at "all"
    | [x], q => simp only [F_is_pair]; walk_at "all"
    | x :: y :: z :: r, q =>
      have ln : ∀ hh, blt .len hh [.tup (x :: y :: z :: r)] = .ok (.int ((r.length : Int) + 3)) hh := fun hh => rfl
      have n2 : ∀ hh, cop .eq hh (.int ((r.length : Int) + 3)) (.int 2) = .ok (.bl false) hh := fun hh => by
        rw [cop_eq]
        have : ((r.length : Int) + 3 == 2) = false := by rw [beq_eq_false_iff_ne]; omega
        rw [this]
      have e : (pair? (.tup (x :: y :: z :: r))).isSome = false := rfl
      rw [e]
      simp only [F_is_pair]
      walk_at "all"
    | [x, y], q =>
      have rx := ratio_any (q x (by simp))
      have ry := ratio_any (q y (by simp))
      have i0 : ∀ hh, ixV hh (.tup [x, y]) (.int 0) = .ok x hh := fun _ => rfl
      have i1 : ∀ hh, ixV hh (.tup [x, y]) (.int 1) = .ok y hh := fun _ => rfl
      have e : (pair? (.tup [x, y])).isSome = ((rat? x).isSome && (rat? y).isSome) := by
        rw [pair?_two]
        cases rat? x <;> cases rat? y <;> rfl
      rw [e]
      cases hx : (rat? x).isSome <;> rw [hx] at rx <;> cases hy : (rat? y).isSome <;> rw [hy] at ry
      all_goals
        simp only [F_is_pair]
        walk_at "all"
end V
end Mp

set_option maxRecDepth 100000
set_option maxHeartbeats 4000000
set_option exponentiation.threshold 10000
/-! Mq6: rules: powers and tables. -/
namespace Mp
open PySem
/-! ### loops that look for something -/
theorem for_stop {f : D → Sg → Hh → R Fl} {d : D} {ds : List D} {σ : Sg} {h h' : Hh} {v : D} (e : f d σ h = .ok (.rt v) h') : forL [] f (d :: ds) σ h = .ok (.rt v) h' := by simp [forL, ifW, watch_nil, e]
theorem forE_stop {l : List Nat} {tg kill : List Nat} {body : SL} {d : D} {ds : List D} {σ : Sg} {h h' : Hh} {v : D} (e : turnK tg kill (exL l body) d σ h = .ok (.rt v) h') : forE l tg body kill [] (d :: ds) σ h = .ok (.rt v) h' := by
  unfold forE
  exact for_stop e
theorem for_stopX {f : D → Sg → Hh → R Fl} {d : D} {ds : List D} {σ τ : Sg} {h h' : Hh} {c : String} {fs : List D} (e : f d σ h = .ok (.xc c fs τ) h') : forL [] f (d :: ds) σ h = .ok (.xc c fs τ) h' := by simp [forL, ifW, watch_nil, e]
theorem forE_stopX {l : List Nat} {tg kill : List Nat} {body : SL} {d : D} {ds : List D} {σ τ : Sg} {h h' : Hh} {c : String} {fs : List D} (e : turnK tg kill (exL l body) d σ h = .ok (.xc c fs τ) h') : forE l tg body kill [] (d :: ds) σ h = .ok (.xc c fs τ) h' := by
  unfold forE
  exact for_stopX e
/-- what a look comes to: the first found one is told -/
def lookFl (σ : Sg) : Option D → Fl
  | some v => .rt v
  | none => .nx σ
theorem forE_look {α : Type} {l : List Nat} {tg kill : List Nat} {body : SL} {σ : Sg} {h : Hh} (enc : α → D) (f : α → Option D) : ∀ xs : List α, (∀ x ∈ xs, turnK tg kill (exL l body) (enc x) σ h = .ok (lookFl σ (f x)) h) → forE l tg body kill [] (xs.map enc) σ h = .ok (lookFl σ (xs.findSome? f)) h
  | [], _ => forE_nil
  | x :: xs, s => by
    have e := s x (by simp)
    rw [List.map_cons, List.findSome?_cons]
    cases q : f x with
    | some v => rw [q] at e; exact forE_stop e
    | none => rw [q] at e; rw [forE_cons e]; exact forE_look enc f xs fun y hy => s y (by simp [hy])
/-! ### rows, rules -/
abbrev Row := Rat × Rat
def rowD (r : Row) : D := .tup [ratD r.1, ratD r.2]
def rowsD (rows : List Row) : D := .tup (rows.map rowD)
inductive Rule where
  | pw (k : Nat)
  | tb (rows : List Row)
def Rule.D : Rule → Mp.D
  | .pw k => .tup [.str (Str.ofString "power"), .int k]
  | .tb rows => .tup [.str (Str.ofString "table"), rowsD rows]
def slope (a b : Row) : Rat := (b.2 - a.2) / (b.1 - a.1)
def onLine (a b : Row) (v : Rat) : Rat := a.2 + slope a b * (v - a.1)
def pairs (rows : List Row) : List (Row × Row) := rows.zip (rows.drop 1)
def powT (rows : List Row) (v : Rat) : Option Rat := (pairs rows).findSome? fun p => if p.2.1 < v then none else some (onLine p.1 p.2 v)
def Rule.pow : Rule → Rat → Option Rat
  | .pw k, v => some (v ^ k)
  | .tb rows, v => powT rows v
structure Tab (rows : List Row) : Prop where
  len : 2 ≤ rows.length
  len' : rows.length ≤ 12
  sz : ∀ r ∈ rows, Sz 220 r.1 ∧ Sz 220 r.2
  inc : rows.Pairwise fun a b => a.1 < b.1
  cv : (pairs rows).Pairwise fun p q => slope p.1 p.2 ≤ slope q.1 q.2
  pos : ∀ p ∈ pairs rows, 0 < slope p.1 p.2
  head : ∃ p r, rows = (0, p) :: r ∧ 0 ≤ p
def Rule.Ok : Rule → Prop
  | .pw k => 2 ≤ k ∧ k ≤ 4
  | .tb rows => Tab rows
theorem pairs_cons (a b : Row) (r : List Row) : pairs (a :: b :: r) = (a, b) :: pairs (b :: r) := rfl
theorem pairs_get {rows : List Row} {j : Nat} (h : j + 1 < rows.length) : (pairs rows)[j]? = some (rows[j], rows[j + 1]) := by
  unfold pairs
  rw [List.getElem?_zip_eq_some]
  refine ⟨List.getElem?_eq_getElem (by omega), ?_⟩
  rw [List.getElem?_drop, Nat.add_comm 1 j]
  exact List.getElem?_eq_getElem h
theorem pairs_len (rows : List Row) : (pairs rows).length = rows.length - 1 := by unfold pairs; simp
theorem pairs_mem {rows : List Row} {p : Row × Row} (h : p ∈ pairs rows) : p.1 ∈ rows ∧ p.2 ∈ rows := by
  unfold pairs at h
  have := List.of_mem_zip h
  exact ⟨this.1, List.mem_of_mem_drop this.2⟩
theorem pairs_snoc : ∀ (rs : List Row) (a b : Row), pairs (rs ++ [a, b]) = pairs (rs ++ [a]) ++ [(a, b)]
  | [], a, b => rfl
  | [x], a, b => rfl
  | x :: y :: r, a, b => by
    have ih := pairs_snoc (y :: r) a b
    simp only [List.cons_append] at ih ⊢
    rw [pairs_cons, pairs_cons, ih]; rfl
theorem Tab.lt {rows : List Row} (t : Tab rows) {p : Row × Row} (h : p ∈ pairs rows) : p.1.1 < p.2.1 := by
  obtain ⟨j, hj, e⟩ := List.getElem_of_mem h
  have hl := pairs_len rows
  have hj' : j + 1 < rows.length := by omega
  have := pairs_get hj'
  rw [List.getElem?_eq_getElem hj] at this
  cases (Option.some.inj this).symm.trans e
  exact List.pairwise_iff_getElem.mp t.inc j (j + 1) (by omega) hj' (by omega)
/-! ### bounded fractions -/
/-- a part of L, at most m of them -/
def Fr (L m : Nat) (q : Rat) : Prop := ∃ a : Nat, a ≤ m ∧ q = Rat.divInt a L
theorem Fr.mono {L m m' : Nat} {q : Rat} (h : Fr L m q) (hm : m ≤ m') : Fr L m' q := by
  obtain ⟨a, ha, e⟩ := h
  exact ⟨a, by omega, e⟩
theorem Fr.add {L m m' : Nat} {p q : Rat} (hL : L ≠ 0) (h : Fr L m p) (h' : Fr L m' q) : Fr L (m + m') (p + q) := by
  obtain ⟨a, ha, rfl⟩ := h
  obtain ⟨b, hb, rfl⟩ := h'
  refine ⟨a + b, by omega, ?_⟩
  have z : ((L : Nat) : Int) ≠ 0 := by omega
  rw [Rat.divInt_add_divInt _ _ z z, Rat.divInt_eq_divInt_iff (Int.mul_ne_zero z z) z]
  push_cast
  grind
theorem Fr.mul {L L' m m' : Nat} {p q : Rat} (h : Fr L m p) (h' : Fr L' m' q) : Fr (L * L') (m * m') (p * q) := by
  obtain ⟨a, ha, rfl⟩ := h
  obtain ⟨b, hb, rfl⟩ := h'
  refine ⟨a * b, Nat.mul_le_mul ha hb, ?_⟩
  rw [Rat.divInt_mul_divInt]
  push_cast
  rfl
theorem Fr.scale {L m : Nat} {q : Rat} (k : Nat) (hk : k ≠ 0) (hL : L ≠ 0) (h : Fr L m q) : Fr (L * k) (m * k) q := by
  obtain ⟨a, ha, rfl⟩ := h
  refine ⟨a * k, Nat.mul_le_mul_right k ha, ?_⟩
  rw [Rat.divInt_eq_divInt_iff (by omega) (by have := Nat.mul_ne_zero hL hk; omega)]
  push_cast
  grind
theorem Fr.zero (L : Nat) : Fr L 0 0 := ⟨0, Nat.le_refl _, by simp⟩
theorem Fr.sz {L m n : Nat} {q : Rat} (h : Fr L m q) (hL : L ≠ 0) (h1 : L < 2 ^ n) (h2 : m < 2 ^ n) : Sz n q := by
  obtain ⟨a, ha, rfl⟩ := h
  exact Sz.divInt (by omega) (by simp; omega) (by simpa using h1)
theorem Fr.of {L : Nat} {q : Rat} (h0 : 0 ≤ q) (hL : L ≠ 0) (hd : q.den ∣ L) {b : Nat} (hb : q.num ≤ b) : Fr L (b * L) q := by
  obtain ⟨k, e⟩ := hd
  have n0 : 0 ≤ q.num := Rat.num_nonneg.mpr h0
  obtain ⟨a, ea⟩ : ∃ a : Nat, q.num = a := ⟨q.num.toNat, by omega⟩
  refine ⟨a * k, ?_, ?_⟩
  · have : k ≤ L := by
      rw [e]; exact Nat.le_mul_of_pos_left _ q.den_pos
    exact Nat.mul_le_mul (by omega) this
  · have d0 : ((q.den : Nat) : Int) ≠ 0 := by have := q.den_nz; omega
    conv => lhs; rw [← Rat.num_divInt_den q, ea]
    rw [Rat.divInt_eq_divInt_iff d0 (by omega), e]
    push_cast
    grind
def M1 : Nat := 1000000007 * LL
theorem LL0 : LL ≠ 0 := by decide
theorem Pt.fr {q : Rat} (p : Pt q) : Fr LL M1 q := Fr.of (Rat.le_of_lt p.pos) LL0 p.den p.num
/-! ### the program's words on rules -/
namespace P
noncomputable def F_slope_between (r : S) : Fn := .mk 2 2 false
  (.cons (.ret (.call "over" (F_over r) (.cons (.call "minus" (F_minus r) (.cons (.ix (.var 1) (.cst (.int 1))) (.cons (.ix (.var 0) (.cst (.int 1))) .nil))) (.cons (.call "minus" (F_minus r) (.cons (.ix (.var 1) (.cst (.int 0))) (.cons (.ix (.var 0) (.cst (.int 0))) .nil))) .nil))))
  .nil)
noncomputable def F_top_of : Fn := .mk 1 1 false
  (.cons (.ite (.cmp .eq (.ix (.var 0) (.cst (.int 0))) (.cst (.str (Str.ofString "power"))))
 (.cons (.ret (.cst .non))
  .nil)
 .nil)
  (.cons (.ret (.ix (.ix (.ix (.var 0) (.cst (.int 1))) (.neg (.cst (.int 1)))) (.cst (.int 0))))
  .nil))
noncomputable def F_power_at_b1 (r : S) : SL := (.cons (.ite (.not (.call "is_less" F_is_less (.cons (.ix (.ix (.var 2) (.var 3)) (.cst (.int 0))) (.cons (.var 1) .nil))))
 (.cons (.set 4 (.call "slope_between" (F_slope_between r) (.cons (.ix (.var 2) (.bop .sub (.var 3) (.cst (.int 1)))) (.cons (.ix (.var 2) (.var 3)) .nil))))
  (.cons (.ret (.call "plus" (F_plus r) (.cons (.ix (.ix (.var 2) (.bop .sub (.var 3) (.cst (.int 1)))) (.cst (.int 1))) (.cons (.call "times" (F_times r) (.cons (.var 4) (.cons (.call "minus" (F_minus r) (.cons (.var 1) (.cons (.ix (.ix (.var 2) (.bop .sub (.var 3) (.cst (.int 1)))) (.cst (.int 0))) .nil))) .nil))) .nil))))
  .nil))
 .nil)
  .nil)
noncomputable def F_power_at (r rs : S) : Fn := .mk 2 5 false
  (.cons (.ite (.cmp .eq (.ix (.var 0) (.cst (.int 0))) (.cst (.str (Str.ofString "power"))))
 (.cons (.ret (.call "raised" F_raised (.cons (.var 1) (.cons (.ix (.var 0) (.cst (.int 1))) .nil))))
  .nil)
 .nil)
  (.cons (.set 2 (.ix (.var 0) (.cst (.int 1))))
  (.cons (.for_ [3] (.rg2 (.cst (.int 1)) (.blt .len (.cons (.var 2) .nil))) (F_power_at_b1 r) [3, 4])
  (.cons rs
  .nil))))
noncomputable def F_slopes_at_b1 (r : S) : SL := (.cons (.set 6 (.call "slope_between" (F_slope_between r) (.cons (.ix (.var 2) (.bop .sub (.var 5) (.cst (.int 1)))) (.cons (.ix (.var 2) (.var 5)) .nil))))
  (.cons (.ite (.call "is_less" F_is_less (.cons (.ix (.ix (.var 2) (.bop .sub (.var 5) (.cst (.int 1)))) (.cst (.int 0))) (.cons (.var 1) .nil)))
 (.cons (.set 3 (.var 6))
  .nil)
 .nil)
  (.cons (.ite (.and (.isN (.var 4)) (.call "is_less" F_is_less (.cons (.var 1) (.cons (.ix (.ix (.var 2) (.var 5)) (.cst (.int 0))) .nil))))
 (.cons (.set 4 (.var 6))
  .nil)
 .nil)
  .nil)))
noncomputable def F_slopes_at (r : S) : Fn := .mk 2 7 false
  (.cons (.ite (.cmp .eq (.ix (.var 0) (.cst (.int 0))) (.cst (.str (Str.ofString "power"))))
 (.cons (.set 6 (.call "times" (F_times r) (.cons (.tup (.cons (.ix (.var 0) (.cst (.int 1))) (.cons (.cst (.int 1)) .nil))) (.cons (.call "raised" F_raised (.cons (.var 1) (.cons (.bop .sub (.ix (.var 0) (.cst (.int 1))) (.cst (.int 1))) .nil))) .nil))))
  (.cons (.ret (.tup (.cons (.var 6) (.cons (.var 6) .nil))))
  .nil))
 .nil)
  (.cons (.set 2 (.ix (.var 0) (.cst (.int 1))))
  (.cons (.set 3 (.glob "NOUGHT" (.tup [(.int 0), (.int 1)])))
  (.cons (.set 4 (.cst .non))
  (.cons (.for_ [5] (.rg2 (.cst (.int 1)) (.blt .len (.cons (.var 2) .nil))) (F_slopes_at_b1 r) [5, 6])
  (.cons (.ret (.tup (.cons (.var 3) (.cons (.var 4) .nil))))
  .nil))))))
noncomputable def F_plain_slope (r : S) : Fn := .mk 2 4 false
  (.cons (.unp [2, 3] (.call "slopes_at" (F_slopes_at r) (.cons (.var 0) (.cons (.var 1) .nil))))
  (.cons (.ret (.ite (.isN (.var 3)) (.var 2) (.var 3)))
  .nil))
noncomputable def F_bears (r : S) : Fn := .mk 3 5 false
  (.cons (.unp [3, 4] (.call "slopes_at" (F_slopes_at r) (.cons (.var 0) (.cons (.var 1) .nil))))
  (.cons (.ret (.and (.not (.call "is_less" F_is_less (.cons (.var 2) (.cons (.var 3) .nil)))) (.or (.isN (.var 4)) (.not (.call "is_less" F_is_less (.cons (.var 4) (.cons (.var 2) .nil)))))))
  .nil))
end P
namespace Lw
noncomputable def F_law_table_b1 : SL :=
  (.cons (.set 4 (.call "_law_part" F_law_part (.cons (.var 0) .nil)))
  (.cons (.unp [5, 6] (.ix (.var 1) (.neg (.cst (.int 1)))))
  (.cons (.ex (.bm .append (.var 1) (.cons (.tup (.cons (.call "_law_plus" F_law_plus (.cons (.var 5) (.cons (.var 4) .nil))) (.cons (.call "_law_plus" F_law_plus (.cons (.var 6) (.cons (.call "_law_times" F_law_times (.cons (.var 2) (.cons (.var 4) .nil))) .nil))) .nil))) .nil)))
  (.cons (.ite (.cmp .gt (.call "_law_draw" F_law_draw (.cons (.var 0) (.cons (.cst (.int 4)) .nil))) (.cst (.int 0)))
 (.cons (.set 2 (.call "_law_plus" F_law_plus (.cons (.var 2) (.cons (.call "_law_part" F_law_part (.cons (.var 0) .nil)) .nil))))
  .nil)
 .nil)
  .nil))))
noncomputable def F_law_table : Fn := .mk 1 7 false
  (.cons (.set 1 (.alloc (.lst (.cons (.tup (.cons (.tup (.cons (.cst (.int 0)) (.cons (.cst (.int 1)) .nil))) (.cons (.ix (.lst (.cons (.tup (.cons (.cst (.int 0)) (.cons (.cst (.int 1)) .nil))) (.cons (.call "_law_part" F_law_part (.cons (.var 0) .nil)) .nil))) (.call "_law_draw" F_law_draw (.cons (.var 0) (.cons (.cst (.int 2)) .nil)))) .nil))) .nil))))
  (.cons (.set 2 (.call "_law_part" F_law_part (.cons (.var 0) .nil)))
  (.cons (.for_ [3] (.rg1 (.ix (.lst (.cons (.cst (.int 1)) (.cons (.cst (.int 2)) (.cons (.cst (.int 3)) (.cons (.cst (.int 5)) (.cons (.cst (.int 11)) .nil)))))) (.call "_law_draw" F_law_draw (.cons (.var 0) (.cons (.cst (.int 5)) .nil))))) F_law_table_b1 [3, 4, 5, 6])
  (.cons (.ret (.tup (.cons (.cst (.str (Str.ofString "table"))) (.cons (.blt .tuple (.cons (.var 1) .nil)) .nil))))
  .nil))))
noncomputable def F_law_rule : Fn := .mk 1 1 false
  (.cons (.ite (.cmp .eq (.call "_law_draw" F_law_draw (.cons (.var 0) (.cons (.cst (.int 3)) .nil))) (.cst (.int 0)))
 (.cons (.ret (.tup (.cons (.cst (.str (Str.ofString "power"))) (.cons (.bop .add (.cst (.int 2)) (.call "_law_draw" F_law_draw (.cons (.var 0) (.cons (.cst (.int 3)) .nil)))) .nil))))
  .nil)
 .nil)
  (.cons (.ret (.call "_law_table" F_law_table (.cons (.var 0) .nil)))
  .nil))
noncomputable def F_law_power_b1 : SL :=
  (.cons (.set 4 (.call "_law_times" F_law_times (.cons (.var 4) (.cons (.var 1) .nil))))
  .nil)
noncomputable def F_law_power_b2 : SL :=
  (.cons (.ite (.not (.call "_law_less" F_law_less (.cons (.ix (.var 3) (.cst (.int 0))) (.cons (.var 1) .nil))))
 (.cons (.set 6 (.call "_law_over" F_law_over (.cons (.call "_law_minus" F_law_minus (.cons (.ix (.var 3) (.cst (.int 1))) (.cons (.ix (.var 2) (.cst (.int 1))) .nil))) (.cons (.call "_law_minus" F_law_minus (.cons (.ix (.var 3) (.cst (.int 0))) (.cons (.ix (.var 2) (.cst (.int 0))) .nil))) .nil))))
  (.cons (.ret (.call "_law_plus" F_law_plus (.cons (.ix (.var 2) (.cst (.int 1))) (.cons (.call "_law_times" F_law_times (.cons (.var 6) (.cons (.call "_law_minus" F_law_minus (.cons (.var 1) (.cons (.ix (.var 2) (.cst (.int 0))) .nil))) .nil))) .nil))))
  .nil))
 .nil)
  .nil)
noncomputable def F_law_power : Fn := .mk 2 7 false
  (.cons (.ite (.cmp .eq (.ix (.var 0) (.cst (.int 0))) (.cst (.str (Str.ofString "power"))))
 (.cons (.set 4 (.var 1))
  (.cons (.for_ [5] (.rg1 (.bop .sub (.ix (.var 0) (.cst (.int 1))) (.cst (.int 1)))) F_law_power_b1 [5])
  (.cons (.ret (.var 4))
  .nil)))
 .nil)
  (.cons (.for_ [2, 3] (.zip (.ix (.var 0) (.cst (.int 1))) (.sl (.ix (.var 0) (.cst (.int 1))) (.cst (.int 1)) .no)) F_law_power_b2 [2, 3, 6])
  (.cons (.ret (.cst .non))
  .nil)))
noncomputable def F_law_speed : Fn := .mk 2 5 false
  (.cons (.ite (.or (.cmp .eq (.ix (.var 1) (.cst (.int 0))) (.cst (.str (Str.ofString "power")))) (.cmp .eq (.call "_law_draw" F_law_draw (.cons (.var 0) (.cons (.cst (.int 6)) .nil))) (.cst (.int 0))))
 (.cons (.ret (.ix (.lst (.cons (.tup (.cons (.cst (.int 0)) (.cons (.cst (.int 1)) .nil))) (.cons (.call "_law_part" F_law_part (.cons (.var 0) .nil)) (.cons (.call "_law_part" F_law_part (.cons (.var 0) .nil)) .nil)))) (.call "_law_draw" F_law_draw (.cons (.var 0) (.cons (.cst (.int 3)) .nil)))))
  .nil)
 .nil)
  (.cons (.unp [2, 3] (.comp (.ix (.ix (.ix (.var 1) (.cst (.int 1))) (.call "_law_draw" F_law_draw (.cons (.var 0) (.cons (.blt .len (.cons (.ix (.var 1) (.cst (.int 1))) .nil)) .nil)))) (.cst (.int 0))) [4] (.rg1 (.cst (.int 2))) .no))
  (.cons (.ret (.call "_law_over" F_law_over (.cons (.call "_law_plus" F_law_plus (.cons (.var 2) (.cons (.var 3) .nil))) (.cons (.tup (.cons (.cst (.int 2)) (.cons (.cst (.int 1)) .nil))) .nil))))
  .nil)))
noncomputable def F_law_slopes_b1 : SL :=
  (.cons (.set 5 (.call "_law_times" F_law_times (.cons (.var 5) (.cons (.var 1) .nil))))
  .nil)
noncomputable def F_law_slopes_b2 : SL :=
  (.cons (.set 7 (.call "_law_over" F_law_over (.cons (.call "_law_minus" F_law_minus (.cons (.ix (.var 4) (.cst (.int 1))) (.cons (.ix (.var 3) (.cst (.int 1))) .nil))) (.cons (.call "_law_minus" F_law_minus (.cons (.ix (.var 4) (.cst (.int 0))) (.cons (.ix (.var 3) (.cst (.int 0))) .nil))) .nil))))
  (.cons (.ite (.and (.call "_law_less" F_law_less (.cons (.ix (.var 3) (.cst (.int 0))) (.cons (.var 1) .nil))) (.not (.call "_law_less" F_law_less (.cons (.ix (.var 4) (.cst (.int 0))) (.cons (.var 1) .nil)))))
 (.cons (.ixSet (.var 2) (.cst (.int 0)) (.var 7))
  .nil)
 .nil)
  (.cons (.ite (.and (.not (.call "_law_less" F_law_less (.cons (.var 1) (.cons (.ix (.var 3) (.cst (.int 0))) .nil)))) (.call "_law_less" F_law_less (.cons (.var 1) (.cons (.ix (.var 4) (.cst (.int 0))) .nil))))
 (.cons (.ixSet (.var 2) (.cst (.int 1)) (.var 7))
  .nil)
 .nil)
  .nil)))
noncomputable def F_law_slopes : Fn := .mk 2 8 false
  (.cons (.ite (.cmp .eq (.ix (.var 0) (.cst (.int 0))) (.cst (.str (Str.ofString "power"))))
 (.cons (.set 5 (.tup (.cons (.ix (.var 0) (.cst (.int 1))) (.cons (.cst (.int 1)) .nil))))
  (.cons (.for_ [6] (.rg1 (.bop .sub (.ix (.var 0) (.cst (.int 1))) (.cst (.int 1)))) F_law_slopes_b1 [6])
  (.cons (.ret (.tup (.cons (.var 5) (.cons (.var 5) .nil))))
  .nil)))
 .nil)
  (.cons (.set 2 (.alloc (.lst (.cons (.tup (.cons (.cst (.int 0)) (.cons (.cst (.int 1)) .nil))) (.cons (.cst .non) .nil)))))
  (.cons (.for_ [3, 4] (.zip (.ix (.var 0) (.cst (.int 1))) (.sl (.ix (.var 0) (.cst (.int 1))) (.cst (.int 1)) .no)) F_law_slopes_b2 [3, 4, 7])
  (.cons (.ret (.blt .tuple (.cons (.var 2) .nil)))
  .nil))))
noncomputable def F_law_is_borne : Fn := .mk 2 2 false
  (.cons (.ret (.and (.not (.call "_law_less" F_law_less (.cons (.var 1) (.cons (.ix (.var 0) (.cst (.int 0))) .nil)))) (.or (.isN (.ix (.var 0) (.cst (.int 1)))) (.not (.call "_law_less" F_law_less (.cons (.ix (.var 0) (.cst (.int 1))) (.cons (.var 1) .nil)))))))
  .nil)
end Lw
end Mp

set_option maxRecDepth 100000
set_option maxHeartbeats 4000000
set_option exponentiation.threshold 10000
/-! Mq7: powers at speeds. -/
namespace Mp
open PySem
theorem row0 {a : Row} {hh : Hh} : ixV hh (rowD a) (.int 0) = .ok (ratD a.1) hh := rfl
theorem row1 {a : Row} {hh : Hh} : ixV hh (rowD a) (.int 1) = .ok (ratD a.2) hh := rfl
theorem tab0 {rows : List Row} {hh : Hh} : ixV hh (Rule.tb rows).D (.int 0) = .ok (.str (Str.ofString "table")) hh := rfl
theorem tab1 {rows : List Row} {hh : Hh} : ixV hh (Rule.tb rows).D (.int 1) = .ok (rowsD rows) hh := rfl
theorem pw0 {k : Nat} {hh : Hh} : ixV hh (Rule.pw k).D (.int 0) = .ok (.str (Str.ofString "power")) hh := rfl
theorem pw1 {k : Nat} {hh : Hh} : ixV hh (Rule.pw k).D (.int 1) = .ok (.int k) hh := rfl
theorem tp_eq (hh : Hh) : cop .eq hh (.str (Str.ofString "table")) (.str (Str.ofString "power")) = .ok (.bl false) hh := by
  rw [cop_eqs hh (strOk_of _) (strOk_of _)]
  have : (Str.ofString "table" == Str.ofString "power") = false := by decide +kernel
  rw [this]
theorem pp_eq (hh : Hh) : cop .eq hh (.str (Str.ofString "power")) (.str (Str.ofString "power")) = .ok (.bl true) hh := by
  rw [cop_eqs hh (strOk_of _) (strOk_of _)]
  simp
theorem tt_eq (hh : Hh) : cop .eq hh (.str (Str.ofString "table")) (.str (Str.ofString "table")) = .ok (.bl true) hh := by
  rw [cop_eqs hh (strOk_of _) (strOk_of _)]
  simp
theorem pt_eq (hh : Hh) : cop .eq hh (.str (Str.ofString "power")) (.str (Str.ofString "table")) = .ok (.bl false) hh := by
  rw [cop_eqs hh (strOk_of _) (strOk_of _)]
  have : (Str.ofString "power" == Str.ofString "table") = false := by decide +kernel
  rw [this]
theorem len_rows {rows : List Row} {hh : Hh} : blt .len hh [rowsD rows] = .ok (.int rows.length) hh := by
  unfold rowsD
  rw [blt_lenT, List.length_map]
theorem ix_rows {rows : List Row} {hh : Hh} {i : Nat} {a : Row} (e : rows[i]? = some a) : ixV hh (rowsD rows) (.int i) = .ok (rowD a) hh := ixV_tup (atD_some (by rw [List.getElem?_map, e]; rfl))
theorem findSome_range {α β : Type} (g : α → Option β) : ∀ (xs pre : List α), (List.range' pre.length xs.length).findSome? (fun i => (pre ++ xs)[i]?.bind g) = xs.findSome? g
  | [], pre => rfl
  | x :: xs, pre => by
    have ih := findSome_range g xs (pre ++ [x])
    rw [List.append_assoc, List.length_append] at ih
    have e : (pre ++ x :: xs)[pre.length]? = some x := by simp
    rw [List.length_cons, List.range'_succ, List.findSome?_cons, List.findSome?_cons, e]
    show (match g x with | some b => some b | none => _) = _
    cases g x with
    | some b => rfl
    | none => exact ih
theorem findSome_range0 {α β : Type} (g : α → Option β) (xs : List α) : (List.range' 0 xs.length).findSome? (fun i => xs[i]?.bind g) = xs.findSome? g := findSome_range g xs []
/-- the rows' sizes, by pairs -/
theorem Tab.ps {rows : List Row} (t : Tab rows) {p : Row × Row} (h : p ∈ pairs rows) : Sz 220 p.1.1 ∧ Sz 220 p.1.2 ∧ Sz 220 p.2.1 ∧ Sz 220 p.2.2 := by
  obtain ⟨a, b⟩ := pairs_mem h
  exact ⟨(t.sz _ a).1, (t.sz _ a).2, (t.sz _ b).1, (t.sz _ b).2⟩
theorem sub_ne {a b : Rat} (h : a < b) : b - a ≠ 0 := by grind
theorem sz_slope {a b : Row} (h : a.1 < b.1) (s1 : Sz 220 a.1) (s2 : Sz 220 a.2) (s3 : Sz 220 b.1) (s4 : Sz 220 b.2) : Sz 882 (slope a b) := ((s4.sub s2).div (s3.sub s1) (sub_ne h)).mono (by decide)
theorem sz_line {a b : Row} {v : Rat} (h : a.1 < b.1) (s1 : Sz 220 a.1) (s2 : Sz 220 a.2) (s3 : Sz 220 b.1) (s4 : Sz 220 b.2) (sv : Sz 443 v) : Sz 1767 (onLine a b v) := (s2.add ((sz_slope h s1 s2 s3 s4).mul (sv.sub s1))).mono (by decide)
theorem Rule.pow_sz {ρ : Rule} (ok : ρ.Ok) {v q : Rat} (sv : Sz 443 v) (e : ρ.pow v = some q) : Sz 1773 q := by
  cases ρ with
  | pw k =>
    cases e
    have h := ok.2
    exact (P.Sz.pow sv (by decide) k).mono (by have := Nat.mul_le_mul_left 443 h; omega)
  | tb rows =>
    obtain ⟨p, hp, e⟩ := List.exists_of_findSome?_eq_some (show (pairs rows).findSome? _ = some q from e)
    split at e
    · cases e
    · cases e
      obtain ⟨s1, s2, s3, s4⟩ := Tab.ps ok hp
      exact (sz_line (Tab.lt ok hp) s1 s2 s3 s4 sv).mono (by decide)
namespace P
section
variable {l : List Nat} {h : Hh} {r rs : S}
theorem slope_ok {a b : Row} (hlt : a.1 < b.1) (s1 : Sz 220 a.1) (s2 : Sz 220 a.2) (s3 : Sz 220 b.1) (s4 : Sz 220 b.2) : callF l (F_slope_between r) [rowD a, rowD b] h = .ok (ratD (slope a b)) h := by
  have e1 := fun hh => minus_ok (l := h.length :: l) (h := hh) (r := r) s4 s2 (by decide)
  have e2 := fun hh => minus_ok (l := h.length :: l) (h := hh) (r := r) s3 s1 (by decide)
  have e3 := fun hh => over_ok (l := h.length :: l) (h := hh) (r := r) (s4.sub s2) (s3.sub s1) (by decide) (sub_ne hlt)
  simp [F_slope_between, row0, row1, e1, e2, e3]
  exact fin_rat rfl
theorem power_loop {rows : List Row} (t : Tab rows) {v : Rat} (sv : Sz 443 v) {a b : D} :
    forE l [3] (F_power_at_b1 r) [3, 4] [] (rg 1 rows.length) [some a, some (ratD v), some (rowsD rows), none, none] h = .ok (lookFl [some a, some (ratD v), some (rowsD rows), none, none] ((powT rows v).map ratD)) h := by
  obtain ⟨m, hm⟩ : ∃ m, rows.length = m + 1 := ⟨rows.length - 1, by have := t.len; omega⟩
  have pl : (pairs rows).length = m := by rw [pairs_len]; omega
  have e := forE_look (l := l) (tg := [3]) (kill := [3, 4]) (body := F_power_at_b1 r) (σ := [some a, some (ratD v), some (rowsD rows), none, none]) (h := h) (fun (i : Nat) => D.int (1 + (i : Int)))
    (fun i => (pairs rows)[i]?.bind fun p => if p.2.1 < v then none else some (ratD (onLine p.1 p.2 v))) (List.range' 0 m) (fun i hi => by
      have hi' : i < m := by simpa using hi
      have hp := pairs_get (rows := rows) (j := i) (by omega)
      have hmem : (rows[i], rows[i + 1]) ∈ pairs rows := List.mem_of_getElem? hp
      obtain ⟨s1, s2, s3, s4⟩ := t.ps hmem
      have hlt := t.lt hmem
      rw [hp]
      have i1 : ∀ hh, ixV hh (rowsD rows) (.int (1 + (i : Int))) = .ok (rowD rows[i + 1]) hh := fun hh => by
        have := ix_rows (rows := rows) (hh := hh) (i := i + 1) (List.getElem?_eq_getElem (by omega))
        rw [show (((i + 1 : Nat)) : Int) = 1 + (i : Int) by omega] at this
        exact this
      have i0 : ∀ hh, ixV hh (rowsD rows) (.int (i : Int)) = .ok (rowD rows[i]) hh := fun hh => ix_rows (List.getElem?_eq_getElem (by omega))
      have b0 : ∀ hh, bop .sub hh (.int (1 + (i : Int))) (.int 1) = .ok (.int (i : Int)) hh := fun hh => by
        rw [bop_sub, show 1 + (i : Int) - 1 = i by omega]
      simp only at s1 s2 s3 s4 hlt
      generalize rows[i] = x at *
      generalize rows[i + 1] = y at *
      have e1 := fun hh => is_less_ok (l := l) (h := hh) s3 sv (by decide)
      have e2 := fun hh => slope_ok (l := l) (h := hh) (r := r) hlt s1 s2 s3 s4
      have e3 := fun hh => minus_ok (l := l) (h := hh) (r := r) sv s1 (by decide)
      have e4 := fun hh => times_ok (l := l) (h := hh) (r := r) (sz_slope hlt s1 s2 s3 s4) (sv.sub s1) (by decide)
      have e5 := fun hh => plus_ok (l := l) (h := hh) (r := r) s2 ((sz_slope hlt s1 s2 s3 s4).mul (sv.sub s1)) (by decide)
      have ln : x.2 + slope x y * (v - x.1) = onLine x y v := rfl
      rw [ln] at e5
      by_cases c : y.1 < v
      · simp [turnK, F_power_at_b1, i1, row0, e1, c, lookFl]
      · simp [turnK, F_power_at_b1, i1, i0, b0, row0, row1, e1, c, lookFl, e2, e3, e4, e5])
  have rge : rg 1 (rows.length : Int) = (List.range' 0 m).map fun (i : Nat) => D.int (1 + (i : Int)) := by
    rw [show ((rows.length : Nat) : Int) = 1 + (m : Int) by omega, rg_range']
  rw [rge, e]
  have f := findSome_range0 (fun p : Row × Row => if p.2.1 < v then none else some (ratD (onLine p.1 p.2 v))) (pairs rows)
  rw [pl] at f
  rw [f]
  have g : (pairs rows).findSome? (fun p => if p.2.1 < v then none else some (ratD (onLine p.1 p.2 v))) = (powT rows v).map ratD := by
    unfold powT
    rw [List.map_findSome?]
    congr 1
    funext p
    by_cases c : p.2.1 < v <;> simp [c]
  rw [g]
theorem power_at_some {ρ : Rule} {v q : Rat} (ok : ρ.Ok) (sv : Sz 443 v) (e : ρ.pow v = some q) : callF l (F_power_at r rs) [ρ.D, ratD v] h = .ok (ratD q) h := by
  cases ρ with
  | pw k =>
    cases e
    have e1 := fun hh => raised_ok (l := h.length :: l) (h := hh) sv (by decide) (k := k) (by have := ok.2; have := Nat.mul_le_mul_left 443 ok.2; omega) (by have := ok.2; omega)
    generalize v ^ k = z at *
    simp [F_power_at, pw0, pw1, pp_eq, e1]
    exact fin_rat rfl
  | tb rows =>
    have e1 := power_loop (l := h.length :: l) (h := h) (r := r) ok sv (a := (Rule.tb rows).D) (b := .non)
    have e0 : powT rows v = some q := e
    rw [e0] at e1
    have hl : rows.length ≤ 12 := Tab.len' ok
    have rv := fun hh => rgV_ok (h := hh) (rgOk_sm (i := 1) (j := rows.length) (by decide) (by decide) (by omega) (by omega))
    generalize rg 1 (rows.length : Int) = xs at e1 rv
    simp [F_power_at, tab0, tab1, tp_eq, len_rows, rv, e1, lookFl]
    exact fin_rat rfl
theorem power_at_none {rows : List Row} {v : Rat} (ok : Tab rows) (sv : Sz 443 v) (e : powT rows v = none) : callF l (F_power_at r (.raise "NoSpeed" (.cons (.var 1) .nil))) [(Rule.tb rows).D, ratD v] h = .ex "NoSpeed" [ratD v] h := by
  have e1 := power_loop (l := h.length :: l) (h := h) (r := r) ok sv (a := (Rule.tb rows).D) (b := .non)
  rw [e] at e1
  have hl : rows.length ≤ 12 := ok.len'
  have rv := fun hh => rgV_ok (h := hh) (rgOk_sm (i := 1) (j := rows.length) (by decide) (by decide) (by omega) (by omega))
  generalize rg 1 (rows.length : Int) = xs at e1 rv
  simp [F_power_at, tab0, tab1, tp_eq, len_rows, rv, e1, lookFl, excF, D.unds, und_rat]
theorem ix_last {rows : List Row} (ne : rows ≠ []) {hh : Hh} : ixV hh (rowsD rows) (.int (-1)) = .ok (rowD (rows.getLast ne)) hh := by
  refine ixV_tup ?_
  have hl : 0 < rows.length := List.length_pos_iff.mpr ne
  unfold atD ixAt
  rw [List.length_map, if_neg (by decide), if_pos (by omega)]
  show (rows.map rowD)[(-1 + (rows.length : Int)).toNat]? = _
  rw [show (-1 + (rows.length : Int)).toNat = rows.length - 1 by omega, List.getElem?_map, List.getLast_eq_getElem, List.getElem?_eq_getElem (by omega)]
  rfl
theorem top_tb {rows : List Row} (ne : rows ≠ []) : callF l F_top_of [(Rule.tb rows).D] h = .ok (ratD (rows.getLast ne).1) h := by
  simp [F_top_of, tab0, tab1, tp_eq, ix_last ne, row0]
  exact fin_rat rfl
theorem top_pw {k : Nat} : callF l F_top_of [(Rule.pw k).D] h = .ok .non h := by
  simp [F_top_of, pw0, pp_eq]
  simp [fin, D.und]
end
end P
end Mp

set_option maxRecDepth 100000
set_option maxHeartbeats 1000000
set_option exponentiation.threshold 10000
/-! Mv2: rules: right_rule at any plain thing. -/
namespace Mp
open PySem
local macro_rules | `(tactic| walk_at "w") => `(tactic| repeat walk_at "w1")
local macro_rules | `(tactic| walk_at "w!") => `(tactic| (walk_at "w"; done))
local macro_rules | `(tactic| walk_at "hyp") => `(tactic| first | with_reducible assumption | (apply_assumption (transparency := .reducible) -exfalso -symm only [*]))
local macro_rules | `(tactic| walk_at "tf") => `(tactic| first | exact rfl | assumption | walk_at "tf2")
local macro_rules | `(tactic| walk_at "tf2") => `(tactic| first | (simp only [decide_eq_true_eq, decide_eq_false_iff_not, Bool.and_eq_true, Bool.or_eq_true, Bool.and_eq_false_iff, Bool.or_eq_false_iff, Bool.not_eq_true', Bool.not_eq_false', Bool.not_eq_eq_eq_not, Bool.not_true, Bool.not_false, beq_iff_eq, beq_eq_false_iff_ne, List.length_cons, List.length_nil] <;> omega) | (simp only [*]; done))
local macro_rules | `(tactic| walk_at "len") => `(tactic| first | assumption | exact Nat.le_of_ble_eq_true rfl | omega | (simp only [ratL, iD, List.length_take, List.length_map, List.length_range, List.length_range', List.length_cons, List.length_nil, List.length_append, List.length_replicate, List.length_set]; omega))
local macro_rules | `(tactic| walk_at "sg") => `(tactic| first | ((simp only [killAll, List.set_cons_zero, List.set_cons_succ, asSet, asGone]) <;> rfl) | rfl)
local macro_rules | `(tactic| walk_at "sgf") => `(tactic| first | ((simp only [List.map_cons, List.map_nil, List.replicate_succ, List.replicate_zero, List.cons_append, List.nil_append, Nat.reduceSub]) <;> rfl) | rfl)
local macro_rules | `(tactic| walk_at "tg") => `(tactic| first | walk_at "hyp" | ((simp only [target, setAll, killAll, List.set_cons_zero, List.set_cons_succ]) <;> rfl) | rfl)
local macro_rules | `(tactic| walk_at "cop") => `(tactic| first | walk_at "hyp" | with_reducible (first | exact cop_eq _ _ _ | exact cop_ne _ _ _ | exact cop_lt _ _ _ | exact cop_le _ _ _ | exact cop_gt _ _ _ | exact cop_ge _ _ _ | exact cop_eqb _ _ _ | exact cop_neb _ _ _))
local macro_rules | `(tactic| walk_at "bop") => `(tactic| first | with_reducible (first | exact bop_add _ _ _ | exact bop_sub _ _ _) | walk_at "hyp" | ((with_reducible first | apply W.add_lst | apply W.add_tup); (focus (walk_at "len")); (focus (first | ((simp only [List.cons_append, List.nil_append]) <;> rfl) | rfl))) | (with_reducible refine bop_mul _ ?_ ?_ <;> assumption))
local macro_rules | `(tactic| walk_at "blt") => `(tactic| first | walk_at "hyp" | with_reducible (first | exact blt_lenT _ _ | exact blt_lenL _ _ | exact blt_abs _ _ | exact W.blt_inR2 | exact W.blt_inR1))
local macro_rules | `(tactic| walk_at "leaf") => `(tactic| first | ((with_reducible apply W.lf_call); walk_at "hyp") | ((with_reducible apply W.lf_comp); walk_at "hyp") | ((with_reducible apply W.lf_for); walk_at "hyp") | ((with_reducible apply W.lf_while); walk_at "hyp") | ((with_reducible apply W.lf_get); exact rfl) | ((with_reducible apply W.lf_sg); walk_at "sg") | ((with_reducible apply W.lf_ix); first | walk_at "hyp" | exact rfl) | ((with_reducible apply W.lf_cop); walk_at "cop") | ((with_reducible apply W.lf_bop); walk_at "bop") | ((with_reducible apply W.lf_blt); walk_at "blt") | ((with_reducible apply W.lf_isin); first | walk_at "hyp" | exact rfl) | ((with_reducible apply W.lf_src); first | walk_at "hyp" | exact rfl) | ((with_reducible apply W.lf_len); walk_at "len") | ((with_reducible apply W.lf_len2); first | exact rfl | (simp [excF]; done)) | ((with_reducible apply W.lf_tg); walk_at "tg") | ((with_reducible apply W.lf_sl); first | walk_at "hyp" | exact rfl) | ((with_reducible apply W.lf_isNo); exact rfl) | ((with_reducible apply W.lf_bm); walk_at "hyp") | ((with_reducible apply W.lf_rg); first | assumption | exact rgOk_nat (by omega) | exact rgOk_sm (by omega) (by omega) (by omega) (by omega) | decide) | ((with_reducible apply W.lf_recv); first | assumption | exact recv_ref (by assumption) | exact rfl) | ((with_reducible apply W.lf_tup); exact rfl) | ((with_reducible apply W.lf_isB); first | walk_at "hyp" | exact rfl) | ((with_reducible apply W.lf_notB); exact rfl) | ((with_reducible apply W.lf_xfld); first | walk_at "hyp" | exact rfl) | ((with_reducible apply W.lf_item); walk_at "hyp") | ((with_reducible apply W.lf_vals); walk_at "hyp") | ((with_reducible apply W.lf_pick); first | walk_at "hyp" | exact rfl) | ((with_reducible apply W.lf_seq); first | walk_at "hyp" | exact rfl) | ((with_reducible apply W.lf_set); walk_at "hyp") | ((with_reducible apply W.lf_setAll); ((simp only [setAll, List.set_cons_zero, List.set_cons_succ]) <;> rfl)))
local macro_rules | `(tactic| walk_at "w1") => `(tactic| first | ((with_reducible apply W.hd_E); walk_at "wE") | ((with_reducible apply W.hd_X); first | walk_at "wX" | ((with_reducible apply W.try_s); (first | (focus (walk_at "w!")) | (focus (walk_at "wx!"))))) | ((with_reducible apply W.hd_L); with_reducible (first | apply W.lcons | exact W.lnil)) | walk_at "leaf" | ((with_reducible apply W.hd_I); with_reducible (first | apply W.seq | apply W.rg1 | apply W.rg2 | apply W.enum | apply W.zip)) | walk_at "wK")
local macro_rules | `(tactic| walk_at "wK") => `(tactic| first | ((with_reducible apply W.hd_sel); first | ((with_reducible apply W.sel_t); (focus (walk_at "tf"))) | ((with_reducible apply W.sel_f); (focus (walk_at "tf"))) | with_reducible (first | apply W.and_b | apply W.or_b)) | with_reducible (first | exact W.r_rfl | apply W.fl_nx | exact W.fl_rt | exact W.fl_xc | apply W.fo_nx | exact W.fo_rt | exact W.fo_xc | apply W.tr_nx | exact W.tr_rt) | ((with_reducible apply W.tr_c); (focus (walk_at "exc")); (focus (walk_at "w!")); (focus (walk_at "w!")); (focus (walk_at "w!"))) | ((with_reducible apply W.tr_c_rt); (focus (walk_at "exc")); (focus (walk_at "w!")); (focus (walk_at "w!"))) | ((with_reducible apply W.tr_n); (focus (walk_at "exn"))) | with_reducible (first | apply W.tu_nx | exact W.tu_rt | exact W.tu_xc) | ((with_reducible apply W.hd_it); first | ((with_reducible apply W.it_t); (focus (walk_at "tf"))) | ((with_reducible apply W.it_f); (focus (walk_at "tf")))) | with_reducible (first | apply W.fo_s | exact W.fnil | exact W.cnil | apply W.it_n) | ((with_reducible apply W.it_s); (focus exact rfl)))
local macro_rules | `(tactic| walk_at "wE") => `(tactic| first | ((with_reducible apply W.var); first | exact rfl | assumption) | ((with_reducible apply W.hd_ite); walk_at "hyp") | ((with_reducible apply W.hd_or); walk_at "hyp") | ((with_reducible apply W.hd_and); walk_at "hyp") | with_reducible (first | exact W.cst | apply W.ix | apply W.call | apply W.cmp | apply W.bop' | apply W.blt' | apply W.tup | apply W.not' | exact W.glob | apply W.isin | apply W.comp | apply W.lst | apply W.chain | apply W.and_s | apply W.or_s | apply W.ite_s | exact W.no | apply W.neg | apply W.isN | apply W.notN | apply W.isB | apply W.notB | apply W.sl_hi | apply W.sl_lo | apply W.sl_lh | apply W.rev | apply W.alloc | apply W.vals | apply W.pick | apply W.xfld | apply W.bm' | apply W.mkx))
local macro_rules | `(tactic| walk_at "wX") => `(tactic| with_reducible (first | apply W.set | exact W.nil | apply W.ap_cons | apply W.ap_nil | apply W.ret | apply W.if_s | apply W.ex | apply W.pass | apply W.for_s | apply W.kill' | apply W.par | apply W.unp | apply W.ixSet | apply W.raise | apply W.while_s))
local macro_rules | `(tactic| walk_at "fn") => `(tactic| (apply W.fn0; (focus exact rfl); (focus exact Nat.le_of_ble_eq_true rfl); (focus (walk_at "sgf"))))
local macro_rules | `(tactic| walk_at "exc") => `(tactic| first | assumption | (simp [excSub, above]; done))
local macro_rules | `(tactic| walk_at "wxe") => `(tactic| first | ((with_reducible (first | apply W.tup_x | apply W.lst_x | apply W.ix_x | apply W.not_x | apply W.isB_x | apply W.notB_x | apply W.isN_x | apply W.blt_x)); walk_at "wxe") | ((with_reducible apply W.lcons_x); (focus (walk_at "wxe"; done))) | ((with_reducible apply W.lcons_x2); (focus (walk_at "w!")); (focus (walk_at "wxe"; done))) | ((with_reducible apply W.cmp_x); (focus (walk_at "wxe"; done))) | ((with_reducible apply W.bop_x); (focus (walk_at "wxe"; done))) | ((with_reducible apply W.cmp_x2); (focus (walk_at "w!")); (focus (walk_at "wxe"; done))) | ((with_reducible apply W.bop_x2); (focus (walk_at "w!")); (focus (walk_at "wxe"; done))) | ((with_reducible apply W.call_x); (focus (walk_at "w!")); (focus (walk_at "hyp"))) | ((with_reducible apply W.call_xa); (focus (walk_at "wxe"; done))))
local macro_rules | `(tactic| walk_at "wx") => `(tactic| repeat (first | ((with_reducible apply W.set_x); (focus (walk_at "wxe"; done))) | ((with_reducible apply W.ex_x); (focus (walk_at "wxe"; done))) | ((with_reducible apply W.ret_x); (focus (walk_at "wxe"; done))) | ((with_reducible apply W.if_x); (focus (walk_at "wxe"; done))) | ((with_reducible apply W.unp_x); (focus (walk_at "wxe"; done))) | walk_at "w1"))
local macro_rules | `(tactic| walk_at "wx!") => `(tactic| (walk_at "wx"; done))
local macro_rules | `(tactic| walk_at "wl") => `(tactic| walk_at "w")
local macro_rules | `(tactic| walk_at "exn") => `(tactic| first | assumption | (simp [excSub, above]; done))
local macro_rules | `(tactic| walk_at "wl!") => `(tactic| (walk_at "wl"; done))
local macro_rules | `(tactic| walk_at "fnx") => `(tactic| (apply W.fn_xc; (focus exact rfl); (focus exact Nat.le_of_ble_eq_true rfl); (focus (walk_at "sgf"))))
local macro_rules | `(tactic| walk_at "fin") => `(tactic| first | with_reducible (first | exact fin_int rfl | exact fin_bl rfl | exact P.fin_rat rfl) | (apply W.fin_und; (focus (first | rfl | assumption | walk_at "hyp" | exact und_rat _ _ | (simp [D.und, D.unds, und_rat]; done))); (focus (first | exact W.take_same | exact W.take_set | exact W.take_app))))
local macro_rules | `(tactic| walk_at "all") => `(tactic| (walk_at "fn"; (focus (walk_at "w!")); (walk_at "fin")))
local macro_rules | `(tactic| walk_at "allx") => `(tactic| (walk_at "fnx"; (focus (walk_at "wx!")); (focus (first | rfl | (simp [D.und, D.unds, und_rat]; done))); (focus (first | exact W.take_same | exact W.take_app))))
local macro_rules | `(tactic| walk_at "turn") => `(tactic| (apply W.turn_s; walk_at "w!"))
local macro_rules | `(tactic| walk_at "turn_rt") => `(tactic| (apply W.turn_rt; (focus (walk_at "tg")); (focus (walk_at "w!"))))
local macro_rules | `(tactic| walk_at "wh") => `(tactic| repeat (first | ((with_reducible apply W.hd_X); walk_at "hyp") | walk_at "w1"))
local macro_rules | `(tactic| walk_at "turnh") => `(tactic| (apply W.turn_s; (focus (walk_at "tg")); walk_at "wh"; done))
local macro_rules | `(tactic| walk_at "turnx") => `(tactic| (apply W.turn_xc; (focus (walk_at "tg")); (focus (walk_at "wx!"))))
/-- a loop that stops at the first one that is not so; each turn knows that those ahead are so -/
theorem forE_first {l tg kill : List Nat} {body : SL} {σ : Sg} {h : Hh} (enc : Nat → D) (ok : Nat → Bool) (fl : Nat → Fl) (hfl : ∀ k, isNx (fl k) = false) (n : Nat)
    (h1 : ∀ k < n, (∀ j < k, ok j = true) → ok k = true → turnK tg kill (exL l body) (enc k) σ h = .ok (.nx σ) h) (h2 : ∀ k < n, (∀ j < k, ok j = true) → ok k = false → turnK tg kill (exL l body) (enc k) σ h = .ok (fl k) h) :
    forE l tg body kill [] ((List.range n).map enc) σ h = firstK ok fl σ h (List.range n) := by
  have key : ∀ m s, s + m = n → (∀ j < s, ok j = true) → forE l tg body kill [] ((List.range' s m).map enc) σ h = firstK ok fl σ h (List.range' s m) := by
    intro m
    induction m with
    | zero => intro s _ _; exact forE_nil
    | succ m ih =>
      intro s e ha
      rw [List.range'_succ, List.map_cons]
      unfold firstK
      cases q : ok s with
      | true =>
        rw [List.find?_cons_of_neg (by simp [q]), forE_cons (h1 s (by omega) ha q)]
        exact ih (s + 1) (by omega) fun j hj => by
          rcases Nat.lt_succ_iff_lt_or_eq.mp hj with y | y
          · exact ha j y
          · rw [y]; exact q
      | false =>
        rw [List.find?_cons_of_pos (by simp [q])]
        have t := h2 s (by omega) ha q
        have z := hfl s
        show forE l tg body kill [] (enc s :: (List.range' (s + 1) m).map enc) σ h = .ok (fl s) h
        cases f : fl s with
        | nx s' => rw [f] at z; cases z
        | rt d => rw [f] at t; exact W.fstop t
        | xc c fs s' => rw [f] at t; exact W.fstop_x t
  rw [List.range_eq_range']
  exact key n 0 (by omega) (fun j hj => by omega)
namespace V
theorem eq_rat (hh : Hh) (p q : Rat) : cop .eq hh (ratD p) (ratD q) = .ok (.bl (decide (p = q))) hh := by
  simp only [cop, py_rat, shp_rat, Bool.and_self, if_true, eqv_rat]
/-- rows ahead of a place, as far as they are pairs -/
def ahead (ds : List D) (k : Nat) : List Row := (ds.take k).filterMap pair?
/-- whether a pair may stand behind rows -/
def behind (rs : List Row) (r : Row) : Bool := match rs.reverse with
  | [] => decide (r.1 = 0) && !decide (r.2 < 0)
  | [b] => decide (b.1 < r.1) && decide (b.2 < r.2)
  | b :: a :: _ => (decide (b.1 < r.1) && decide (b.2 < r.2)) && !decide (slope b r < slope a b)
def okRow (ds : List D) (k : Nat) : Bool := match pair? (ds.getD k .non) with
  | some r => behind (ahead ds k) r
  | none => false
/-- the row that is first amiss -/
def rowsDue (ds : List D) : Option Nat := (List.range ds.length).find? fun k => !okRow ds k
def pS : Str := Str.ofString "power"
def tS : Str := Str.ofString "table"
def kDue : D → Option Int
  | .int k => if 2 ≤ k ∧ k ≤ 4 then none else some (-1)
  | _ => some (-1)
def tDue : D → Option Int
  | .tup ds => if 2 ≤ ds.length ∧ ds.length ≤ 12 then (rowsDue ds).map Int.ofNat else some (-1)
  | _ => some (-1)
def sDue (s : Str) (x : D) : Option Int := if s = pS then kDue x else if s = tS then tDue x else some (-1)
/-- what is due of any thing -/
def ruleDue : D → Option Int
  | .tup [.str s, x] => sDue s x
  | _ => some (-1)
theorem ruleDue_s (s : Str) (x : D) : ruleDue (.tup [.str s, x]) = sDue s x := rfl
section
variable {N : Nat} {ds : List D} {k : Nat}
theorem ahead_is (h : ∀ j < k, okRow ds j = true) (hk : k ≤ ds.length) : ds.take k = (ahead ds k).map rowD := by
  have key : ∀ xs : List D, (∀ d ∈ xs, (pair? d).isSome = true) → xs = (xs.filterMap pair?).map rowD := by
    intro xs
    induction xs with
    | nil => intro _; rfl
    | cons x xs ih =>
      intro hx
      have h1 := hx x (by simp)
      cases e : pair? x with
      | none => rw [e] at h1; cases h1
      | some r =>
        rw [List.filterMap_cons, e]
        simp only [List.map_cons]
        rw [← ih fun d hd => hx d (by simp [hd])]
        rw [pair?_some e]
        rfl
  refine key _ fun d hd => ?_
  obtain ⟨j, hj, rfl⟩ := List.mem_iff_getElem.mp hd
  rw [List.getElem_take]
  have hj' : j < k := by simpa using (Nat.lt_of_lt_of_le hj (by simp; omega))
  have o := h j hj'
  unfold okRow at o
  have hl : j < ds.length := by omega
  rw [show ds.getD j .non = ds[j] by simp [List.getD, hl]] at o
  cases e : pair? ds[j] with
  | none => rw [e] at o; cases o
  | some r => rfl
theorem ahead_len (h : ∀ j < k, okRow ds j = true) (hk : k ≤ ds.length) : (ahead ds k).length = k := by
  have := congrArg List.length (ahead_is h hk)
  rw [List.length_take, List.length_map] at this
  omega
theorem ahead_sz (a : ∀ d ∈ ds, Any N d) (h : ∀ j < k, okRow ds j = true) (hk : k ≤ ds.length) : ∀ r ∈ ahead ds k, Sz N r.1 ∧ Sz N r.2 := fun r hr => by
  have m : rowD r ∈ ds.take k := by rw [ahead_is h hk]; exact List.mem_map_of_mem hr
  have q := a _ (List.mem_of_mem_take m)
  unfold rowD at q
  have p := q.at
  exact ⟨any_sz (p _ (by simp)), any_sz (p _ (by simp))⟩
end
abbrev noR : S := .raise "NoRatio" .nil
noncomputable def F_is_behind : Fn := .mk 2 2 false
  (.cons (.ite (.cmp .eq (.var 0) (.tup .nil))
 (.cons (.ret (.and (.cmp .eq (.ix (.var 1) (.cst (.int 0))) (.glob "NOUGHT" (.tup [(.int 0), (.int 1)]))) (.not (.call "is_less" P.F_is_less (.cons (.ix (.var 1) (.cst (.int 1))) (.cons (.glob "NOUGHT" (.tup [(.int 0), (.int 1)])) .nil))))))
  .nil)
 .nil)
  (.cons (.ite (.or (.not (.call "is_less" P.F_is_less (.cons (.ix (.ix (.var 0) (.neg (.cst (.int 1)))) (.cst (.int 0))) (.cons (.ix (.var 1) (.cst (.int 0))) .nil)))) (.not (.call "is_less" P.F_is_less (.cons (.ix (.ix (.var 0) (.neg (.cst (.int 1)))) (.cst (.int 1))) (.cons (.ix (.var 1) (.cst (.int 1))) .nil)))))
 (.cons (.ret (.cst (.bl false)))
  .nil)
 .nil)
  (.cons (.ret (.or (.cmp .lt (.blt .len (.cons (.var 0) .nil)) (.cst (.int 2))) (.not (.call "is_less" P.F_is_less (.cons (.call "slope_between" (P.F_slope_between noR) (.cons (.ix (.var 0) (.neg (.cst (.int 1)))) (.cons (.var 1) .nil))) (.cons (.call "slope_between" (P.F_slope_between noR) (.cons (.ix (.var 0) (.neg (.cst (.int 2)))) (.cons (.ix (.var 0) (.neg (.cst (.int 1)))) .nil))) .nil))))))
  .nil)))
noncomputable def F_right_rule_b1 : SL :=
  (.cons (.ite (.or (.not (.call "is_pair" F_is_pair (.cons (.var 2) .nil))) (.not (.call "is_behind" F_is_behind (.cons (.sl (.ix (.var 0) (.cst (.int 1))) .no (.var 1)) (.cons (.var 2) .nil)))))
 (.cons (.raise "NoRule" (.cons (.var 1) .nil))
  .nil)
 .nil)
  .nil)
noncomputable def F_right_rule : Fn := .mk 1 3 false
  (.cons (.ite (.or (.not (.isin (.var 0) [.tuple])) (.or (.cmp .ne (.blt .len (.cons (.var 0) .nil)) (.cst (.int 2))) (.not (.isin (.ix (.var 0) (.cst (.int 0))) [.str]))))
 (.cons (.raise "NoRule" (.cons (.neg (.cst (.int 1))) .nil))
  .nil)
 .nil)
  (.cons (.ite (.cmp .eq (.ix (.var 0) (.cst (.int 0))) (.cst (.str (Str.ofString "power"))))
 (.cons (.ite (.or (.not (.call "is_whole" F_is_whole (.cons (.ix (.var 0) (.cst (.int 1))) .nil))) (.or (.cmp .lt (.ix (.var 0) (.cst (.int 1))) (.cst (.int 2))) (.cmp .gt (.ix (.var 0) (.cst (.int 1))) (.cst (.int 4)))))
 (.cons (.raise "NoRule" (.cons (.neg (.cst (.int 1))) .nil))
  .nil)
 .nil)
  (.cons (.ret (.cst (.bl true)))
  .nil))
 .nil)
  (.cons (.ite (.or (.cmp .ne (.ix (.var 0) (.cst (.int 0))) (.cst (.str (Str.ofString "table")))) (.or (.not (.isin (.ix (.var 0) (.cst (.int 1))) [.tuple])) (.or (.cmp .lt (.blt .len (.cons (.ix (.var 0) (.cst (.int 1))) .nil)) (.cst (.int 2))) (.cmp .gt (.blt .len (.cons (.ix (.var 0) (.cst (.int 1))) .nil)) (.cst (.int 12))))))
 (.cons (.raise "NoRule" (.cons (.neg (.cst (.int 1))) .nil))
  .nil)
 .nil)
  (.cons (.for_ [1, 2] (.enum (.ix (.var 0) (.cst (.int 1)))) F_right_rule_b1 [1, 2])
  (.cons (.ret (.cst (.bl true)))
  .nil)))))
theorem atD_neg {α : Type} {xs : List α} {k : Nat} (h1 : 1 ≤ k) (h2 : k ≤ xs.length) : atD xs (-(k : Int)) = xs[xs.length - k]? := by
  unfold atD ixAt
  rw [if_neg (by omega), if_pos (by omega)]
  have e : (-(k : Int) + (xs.length : Int)).toNat = xs.length - k := by omega
  rw [Option.bind_some, e]
def rowPy (r : Row) : PyData := .tuple [ratP r.1, ratP r.2]
theorem py_row (hh : Hh) (r : Row) : (rowD r).py hh = some (rowPy r) := by simp [rowD, rowPy, D.py, D.pys, py_rat]
theorem pys_rows (hh : Hh) : ∀ rs : List Row, D.pys hh (rs.map rowD) = some (rs.map rowPy)
  | [] => rfl
  | r :: rs => by simp [D.pys, py_row, pys_rows hh rs]
theorem lay_rows : ∀ rs : List Row, PyData.canLayAll0 (rs.map rowPy) = true
  | [] => rfl
  | r :: rs => by simp [PyData.canLayAll0, rowPy, PyData.canLay0, lay_rat, lay_rows rs]
theorem dep_rows : ∀ rs : List Row, PyData.depthAll (rs.map rowPy) ≤ 2
  | [] => by simp [PyData.depthAll]
  | r :: rs => by
    have := dep_rows rs
    simp [PyData.depthAll, rowPy, PyData.depth, dep_rat]; omega
theorem shp_rows (rs : List Row) : SeqAt.shaped (.tuple (rs.map rowPy)) = true := by
  have := dep_rows rs
  simp [SeqAt.shaped, PyData.canLay0, lay_rows, PyData.depth]; omega
theorem rows_nil (hh : Hh) (rs : List Row) : cop .eq hh (.tup (rs.map rowD)) (.tup []) = .ok (.bl rs.isEmpty) hh := by
  have e : PyData.eqv (.tuple (rs.map rowPy)) (.tuple []) = rs.isEmpty := by
    cases rs <;> simp [PyData.eqv, PyData.eqvAll]
  have z : SeqAt.shaped (.tuple []) = true := shp_rows []
  simp only [cop, D.py, pys_rows, D.pys, Option.map_some, shp_rows, z, Bool.and_self, if_true, e]
section
variable {N : Nat} {rs : List Row} {r : Row}
theorem row_0 (a : Row) (hh : Hh) : ixV hh (rowD a) (.int 0) = .ok (ratD a.1) hh := rfl
theorem row_1 (a : Row) (hh : Hh) : ixV hh (rowD a) (.int 1) = .ok (ratD a.2) hh := rfl
theorem slope_sz {a b : Row} (hlt : a.1 < b.1) (s1 : Sz N a.1) (s2 : Sz N a.2) (s3 : Sz N b.1) (s4 : Sz N b.2) : Sz (4 * N + 2) (slope a b) := ((s4.sub s2).div (s3.sub s1) (sub_ne hlt)).mono (by omega)
theorem slope_ok {a b : Row} (hN : N ≤ 1000) (hlt : a.1 < b.1) (s1 : Sz N a.1) (s2 : Sz N a.2) (s3 : Sz N b.1) (s4 : Sz N b.2) : ∀ l h, callF l (P.F_slope_between noR) [rowD a, rowD b] h = .ok (ratD (slope a b)) h := fun l h => by
  have e1 := fun l hh => P.minus_ok (l := l) (h := hh) (r := noR) s4 s2 (by omega)
  have e2 := fun l hh => P.minus_ok (l := l) (h := hh) (r := noR) s3 s1 (by omega)
  have e3 := fun l hh => P.over_ok (l := l) (h := hh) (r := noR) (s4.sub s2) (s3.sub s1) (by omega) (sub_ne hlt)
  have a0 := row_0 a
  have a1 := row_1 a
  have b0 := row_0 b
  have b1 := row_1 b
  change ∀ l hh, _ = R.ok (ratD (slope a b)) hh at e3
  generalize rowD a = A at *
  generalize rowD b = B at *
  simp only [P.F_slope_between]
  walk_at "all"
/-- rows, none of whose speeds falls back -/
theorem behind_ok (hN : N ≤ 1000) (hs : ∀ x ∈ rs, Sz N x.1 ∧ Sz N x.2) (sr : Sz N r.1 ∧ Sz N r.2) (up : ∀ a b t, rs.reverse = b :: a :: t → a.1 < b.1) : ∀ l h, callF l F_is_behind [.tup (rs.map rowD), rowD r] h = .ok (.bl (behind rs r)) h := fun l h => by
  have r0 := row_0 r
  have r1 := row_1 r
  have lt := fun (p q : Rat) (sp : Sz N p) (sq : Sz N q) l hh => P.is_less_ok (l := l) (h := hh) sp sq (by omega)
  have ez : ∀ hh (p : Rat), cop .eq hh (ratD p) (.tup [.int 0, .int 1]) = .ok (.bl (decide (p = 0))) hh := fun hh p => eq_rat hh p 0
  unfold behind
  generalize e : rs.reverse = vs
  have e' : rs = vs.reverse := by rw [← e, List.reverse_reverse]
  have mem : ∀ x ∈ vs, x ∈ rs := fun x hx => by rw [e']; simpa using hx
  match vs, e, e', mem with
  | [], e, e', mem =>
    subst e'
    have z0 : Sz N (0 : Rat) := ⟨by simpa using Nat.pow_pos (by decide), by have := sr.1.2; have h0 := r.1.den_nz; show 1 < 2 ^ N; omega⟩
    have l1 := lt r.2 0 sr.2 z0
    have l1 : ∀ l hh, callF l P.F_is_less [ratD r.2, .tup [.int 0, .int 1]] hh = .ok (.bl (decide (r.2 < 0))) hh := l1
    have en : ∀ hh, cop .eq hh (.tup (List.map rowD ([] : List Row).reverse)) (.tup []) = .ok (.bl true) hh := fun hh => rfl
    simp only [F_is_behind]
    by_cases c : r.1 = 0
    · rw [decide_eq_true c]
      have ez1 := fun hh => ez hh r.1
      rw [decide_eq_true c] at ez1
      clear ez
      walk_at "all"
    · rw [decide_eq_false c]
      have ez1 := fun hh => ez hh r.1
      rw [decide_eq_false c] at ez1
      clear ez
      walk_at "all"
  | [b], e, e', mem =>
    have rb : rs.map rowD = [rowD b] := by rw [e']; rfl
    have sb := hs b (mem b (by simp))
    rw [rb]
    have en : ∀ hh, cop .eq hh (.tup [rowD b]) (.tup []) = .ok (.bl false) hh := fun hh => rows_nil hh [b]
    have im : ∀ hh, ixV hh (.tup [rowD b]) (.int (-1)) = .ok (rowD b) hh := fun hh => rfl
    have b0 := row_0 b
    have b1 := row_1 b
    have l1 := lt b.1 r.1 sb.1 sr.1
    have l2 := lt b.2 r.2 sb.2 sr.2
    clear lt ez
    have ln : ∀ hh, blt .len hh [.tup [rowD b]] = .ok (.int 1) hh := fun hh => rfl
    simp only [F_is_behind]
    generalize rowD b = B at *
    generalize rowD r = R' at *
    cases c1 : decide (b.1 < r.1) <;> rw [c1] at l1 <;> cases c2 : decide (b.2 < r.2) <;> rw [c2] at l2
    all_goals walk_at "all"
  | b :: a :: t, e, e', mem =>
    have rb : rs.map rowD = t.reverse.map rowD ++ [rowD a, rowD b] := by rw [e']; simp
    have sb := hs b (mem b (by simp))
    have sa := hs a (mem a (by simp))
    have hab := up a b t e
    have b0 := row_0 b
    have b1 := row_1 b
    rw [rb]
    have en : ∀ hh, cop .eq hh (.tup (t.reverse.map rowD ++ [rowD a, rowD b])) (.tup []) = .ok (.bl false) hh := fun hh => by
      have := rows_nil hh (t.reverse ++ [a, b])
      rw [List.map_append] at this
      rw [show (t.reverse ++ [a, b]).isEmpty = false by simp] at this
      exact this
    have i1 : ∀ hh, ixV hh (.tup (t.reverse.map rowD ++ [rowD a, rowD b])) (.int (-1)) = .ok (rowD b) hh := fun hh => ixV_tup (by
      rw [show (-1 : Int) = -((1 : Nat) : Int) from rfl, atD_neg (by decide) (by simp)]
      simp)
    have i2 : ∀ hh, ixV hh (.tup (t.reverse.map rowD ++ [rowD a, rowD b])) (.int (-2)) = .ok (rowD a) hh := fun hh => ixV_tup (by
      rw [show (-2 : Int) = -((2 : Nat) : Int) from rfl, atD_neg (by decide) (by simp)]
      simp)
    have l1 := lt b.1 r.1 sb.1 sr.1
    have l2 := lt b.2 r.2 sb.2 sr.2
    have ln : ∀ hh, blt .len hh [.tup (t.reverse.map rowD ++ [rowD a, rowD b])] = .ok (.int ((t.length : Int) + 2)) hh := fun hh => by
      rw [blt_lenT]; simp
    have l3 : ∀ hh, cop .lt hh (.int ((t.length : Int) + 2)) (.int 2) = .ok (.bl false) hh := fun hh => by
      rw [cop_lt, decide_eq_false (by omega)]
    have es1 := slope_ok hN hab sa.1 sa.2 sb.1 sb.2
    have z1 := slope_sz hab sa.1 sa.2 sb.1 sb.2
    simp only [F_is_behind]
    by_cases c1 : b.1 < r.1
    · have es2 := slope_ok hN c1 sb.1 sb.2 sr.1 sr.2
      have z2 := slope_sz c1 sb.1 sb.2 sr.1 sr.2
      have l4 := fun l hh => P.is_less_ok (l := l) (h := hh) z2 z1 (by omega)
      rw [decide_eq_true c1] at l1 ⊢
      generalize t.reverse.map rowD ++ [rowD a, rowD b] = T at *
      generalize rowD b = B at *
      generalize rowD a = A at *
      generalize rowD r = R' at *
      clear lt ez
      cases c2 : decide (b.2 < r.2) <;> rw [c2] at l2
      · walk_at "all"
      · cases c3 : decide (slope b r < slope a b) <;> rw [c3] at l4
        all_goals walk_at "all"
    · rw [decide_eq_false c1] at l1 ⊢
      generalize t.reverse.map rowD ++ [rowD a, rowD b] = T at *
      generalize rowD b = B at *
      generalize rowD r = R' at *
      clear lt ez
      walk_at "all"
end
section
variable {N : Nat} {ds : List D} {k : Nat}
theorem ahead_succ {r : Row} (hk : k < ds.length) (e : pair? (ds.getD k .non) = some r) : ahead ds (k + 1) = ahead ds k ++ [r] := by
  unfold ahead
  rw [List.take_succ, List.getElem?_eq_getElem hk, List.filterMap_append]
  rw [show ds.getD k .non = ds[k] by simp [List.getD, hk]] at e
  simp [e]
theorem ahead_up (h : ∀ j < k, okRow ds j = true) (hk : k ≤ ds.length) : ∀ a b t, (ahead ds k).reverse = b :: a :: t → a.1 < b.1 := fun a b t e => by
  cases k with
  | zero => unfold ahead at e; simp at e
  | succ k =>
    have o := h k (by omega)
    unfold okRow at o
    cases q : pair? (ds.getD k .non) with
    | none => rw [q] at o; cases o
    | some r =>
      rw [q] at o
      rw [ahead_succ (by omega) q, List.reverse_append] at e
      simp only [List.reverse_cons, List.reverse_nil, List.nil_append, List.cons_append, List.cons.injEq] at e
      obtain ⟨rfl, e⟩ := e
      have o : behind (ahead ds k) r = true := o
      unfold behind at o
      rw [e] at o
      cases t with
      | nil => simp only [Bool.and_eq_true, decide_eq_true_eq] at o; exact o.1
      | cons c t => simp only [Bool.and_eq_true, decide_eq_true_eq] at o; exact o.1.1
theorem getD_any (a : ∀ d ∈ ds, Any N d) (hk : k < ds.length) : Any N (ds.getD k .non) := by
  rw [show ds.getD k .non = ds[k] by simp [List.getD, hk]]
  exact a _ (List.getElem_mem hk)
theorem rr_turn (hN : N ≤ 1000) (a : ∀ d ∈ ds, Any N d) (hk : k < ds.length) (h : ∀ j < k, okRow ds j = true) {l : List Nat} {hh : Hh} {s : Str} {σ : Sg} (hσ : σ = [some (.tup [.str s, .tup ds]), none, none]) : (okRow ds k = true → turnK [1, 2] [1, 2] (exL l F_right_rule_b1) (.tup [.int (k : Int), ds.getD k .non]) σ hh = .ok (.nx σ) hh) ∧
    (okRow ds k = false → turnK [1, 2] [1, 2] (exL l F_right_rule_b1) (.tup [.int (k : Int), ds.getD k .non]) σ hh = .ok (.xc "NoRule" [.int (k : Int)] [some (.tup [.str s, .tup ds]), some (.int (k : Int)), some (ds.getD k .non)]) hh) := by
  subst hσ
  have ip := is_pair_any (getD_any a hk)
  have i1 : ∀ hh, ixV hh (.tup [.str s, .tup ds]) (.int 1) = .ok (.tup ds) hh := fun _ => rfl
  have sl : ∀ hh, slV hh (.tup ds) none (some (k : Int)) = .ok (.tup ((ahead ds k).map rowD)) hh := fun hh => by
    show R.ok (D.tup (cut ds none (some (k : Int)))) hh = _
    rw [cut_take, ahead_is h (by omega)]
  unfold okRow
  cases q : pair? (ds.getD k .non) with
  | none =>
    refine ⟨(fun e => nomatch e), fun _ => ?_⟩
    rw [q] at ip
    have ip : ∀ l h, callF l F_is_pair [ds.getD k .non] h = .ok (.bl false) h := ip
    generalize ds.getD k .non = X at *
    simp only [F_right_rule_b1]
    walk_at "turn"
  | some r =>
    rw [q] at ip
    have ip : ∀ l h, callF l F_is_pair [ds.getD k .non] h = .ok (.bl true) h := ip
    have sr : Sz N r.1 ∧ Sz N r.2 := by
      have z := getD_any a hk
      rw [pair?_some q] at z
      exact ⟨any_sz (z.at _ (by simp)), any_sz (z.at _ (by simp))⟩
    have bo := behind_ok hN (ahead_sz a h (by omega)) sr (ahead_up h (by omega))
    rw [show rowD r = ds.getD k .non from (pair?_some q).symm] at bo
    generalize ds.getD k .non = X at *
    generalize (ahead ds k).map rowD = T at *
    refine ⟨fun e => ?_, fun e => ?_⟩
    · rw [show behind (ahead ds k) r = true from e] at bo
      simp only [F_right_rule_b1]
      walk_at "turn"
    · rw [show behind (ahead ds k) r = false from e] at bo
      simp only [F_right_rule_b1]
      walk_at "turn"
theorem rr_loop (hN : N ≤ 1000) (a : ∀ d ∈ ds, Any N d) {l : List Nat} {hh : Hh} {s : Str} :
    forE l [1, 2] F_right_rule_b1 [1, 2] [] (enumD ds) [some (.tup [.str s, .tup ds]), none, none] hh = (match rowsDue ds with
      | none => .ok (.nx [some (.tup [.str s, .tup ds]), none, none]) hh
      | some k => .ok (.xc "NoRule" [.int (k : Int)] [some (.tup [.str s, .tup ds]), some (.int (k : Int)), some (ds.getD k .non)]) hh) := by
  rw [enum_range, forE_first (fun (k : Nat) => D.tup [.int (k : Int), ds.getD k .non]) (okRow ds) (fun k => .xc "NoRule" [.int (k : Int)] [some (.tup [.str s, .tup ds]), some (.int (k : Int)), some (ds.getD k .non)]) (fun _ => rfl) _ (fun k hk h o => (rr_turn hN a hk h rfl).1 o) (fun k hk h o => (rr_turn hN a hk h rfl).2 o)]
  rfl
/-- what right_rule comes to -/
def ruleR (h : Hh) : Option Int → R D
  | none => .ok (.bl true) h
  | some n => .ex "NoRule" [.int n] h
/-- right_rule at any plain thing -/
theorem right_rule_ok (hN : N ≤ 1000) {X : D} (a : Any N X) : ∀ l h, callF l F_right_rule [X] h = ruleR h (ruleDue X) := fun l h => by
  have bad : ∀ Y : D, ruleDue Y = some (-1) → ruleR h (ruleDue Y) = R.ex "NoRule" [D.int (-1)] h := fun Y e => by rw [e]; rfl
  cases a with
  | non => simp only [F_right_rule]; refine Eq.trans ?_ (bad _ rfl).symm; walk_at "allx"
  | bl b => simp only [F_right_rule]; refine Eq.trans ?_ (bad _ rfl).symm; walk_at "allx"
  | int q => simp only [F_right_rule]; refine Eq.trans ?_ (bad _ rfl).symm; walk_at "allx"
  | str q => simp only [F_right_rule]; refine Eq.trans ?_ (bad _ rfl).symm; walk_at "allx"
  | lst q => simp only [F_right_rule]; refine Eq.trans ?_ (bad _ rfl).symm; walk_at "allx"
  | @tup es q =>
    match es, q with
    | [], q => simp only [F_right_rule]; refine Eq.trans ?_ (bad _ rfl).symm; walk_at "allx"
    | [x], q => simp only [F_right_rule]; refine Eq.trans ?_ (bad _ (by cases x <;> rfl)).symm; walk_at "allx"
    | x :: y :: z :: r, q =>
      have ln : ∀ hh, blt .len hh [.tup (x :: y :: z :: r)] = .ok (.int ((r.length : Int) + 3)) hh := fun hh => rfl
      have n2 : ∀ hh, cop .ne hh (.int ((r.length : Int) + 3)) (.int 2) = .ok (.bl true) hh := fun hh => by
        rw [cop_ne]
        have : ((r.length : Int) + 3 == 2) = false := by rw [beq_eq_false_iff_ne]; omega
        rw [this]; rfl
      refine Eq.trans ?_ (bad _ (by cases x <;> rfl)).symm
      simp only [F_right_rule]
      walk_at "allx"
    | [x, y], q =>
      have ax := q x (by simp)
      have ay := q y (by simp)
      have i0 : ∀ hh, ixV hh (.tup [x, y]) (.int 0) = .ok x hh := fun _ => rfl
      have i1 : ∀ hh, ixV hh (.tup [x, y]) (.int 1) = .ok y hh := fun _ => rfl
      have wy := whole_any ay
      cases ax with
      | non => refine Eq.trans ?_ (bad _ rfl).symm; simp only [F_right_rule]; walk_at "allx"
      | bl b => refine Eq.trans ?_ (bad _ rfl).symm; simp only [F_right_rule]; walk_at "allx"
      | int _ => refine Eq.trans ?_ (bad _ rfl).symm; simp only [F_right_rule]; walk_at "allx"
      | tup _ => refine Eq.trans ?_ (bad _ rfl).symm; simp only [F_right_rule]; walk_at "allx"
      | lst _ => refine Eq.trans ?_ (bad _ rfl).symm; simp only [F_right_rule]; walk_at "allx"
      | @str s so =>
        have e1 : ∀ hh, cop .eq hh (.str s) (.str (Str.ofString "power")) = .ok (.bl (s == pS)) hh := fun hh => cop_eqs hh so (strOk_of _)
        have e2 : ∀ hh, cop .ne hh (.str s) (.str (Str.ofString "table")) = .ok (.bl (!(s == tS))) hh := fun hh => cop_nes hh so (strOk_of _)
        have is : ∀ hh, isinV [.str] hh (.str s) = .ok (.bl true) hh := fun _ => rfl
        by_cases c1 : s = pS
        · have b1 : (s == pS) = true := by rw [c1]; simp
          rw [b1] at e1
          clear e2
          cases hy : wh y with
          | false =>
            rw [hy] at wy
            refine Eq.trans ?_ (bad _ (by rw [ruleDue_s]; unfold sDue; rw [if_pos c1]; cases ay <;> first | rfl | cases hy)).symm
            simp only [F_right_rule]
            walk_at "allx"
          | true =>
            rw [hy] at wy
            obtain ⟨m, rfl⟩ : ∃ m, y = .int m := by cases ay <;> first | exact ⟨_, rfl⟩ | cases hy
            have ed : ruleDue (.tup [.str s, .int m]) = if 2 ≤ m ∧ m ≤ 4 then none else some (-1) := by rw [ruleDue_s]; unfold sDue; rw [if_pos c1]; rfl
            rw [ed]
            simp only [F_right_rule]
            by_cases c2 : m < 2
            · rw [if_neg (by omega)]
              show _ = R.ex "NoRule" [D.int (-1)] h
              walk_at "allx"
            · by_cases c3 : 4 < m
              · rw [if_neg (by omega)]
                show _ = R.ex "NoRule" [D.int (-1)] h
                walk_at "allx"
              · rw [if_pos (by omega)]
                show _ = R.ok (D.bl true) h
                walk_at "all"
        · have b1 : (s == pS) = false := by rw [beq_eq_false_iff_ne]; exact c1
          rw [b1] at e1
          by_cases c2 : s = tS
          · have b2 : (s == tS) = true := by rw [c2]; simp
            rw [b2] at e2
            have it := is_tup ay
            cases ay with
            | non => refine Eq.trans ?_ (bad _ (by rw [ruleDue_s]; unfold sDue; rw [if_neg c1, if_pos c2]; rfl)).symm; simp only [F_right_rule]; walk_at "allx"
            | bl b => refine Eq.trans ?_ (bad _ (by rw [ruleDue_s]; unfold sDue; rw [if_neg c1, if_pos c2]; rfl)).symm; simp only [F_right_rule]; walk_at "allx"
            | int _ => refine Eq.trans ?_ (bad _ (by rw [ruleDue_s]; unfold sDue; rw [if_neg c1, if_pos c2]; rfl)).symm; simp only [F_right_rule]; walk_at "allx"
            | str _ => refine Eq.trans ?_ (bad _ (by rw [ruleDue_s]; unfold sDue; rw [if_neg c1, if_pos c2]; rfl)).symm; simp only [F_right_rule]; walk_at "allx"
            | lst _ => refine Eq.trans ?_ (bad _ (by rw [ruleDue_s]; unfold sDue; rw [if_neg c1, if_pos c2]; rfl)).symm; simp only [F_right_rule]; walk_at "allx"
            | @tup ds ha =>
              have ed : ruleDue (.tup [.str s, .tup ds]) = if 2 ≤ ds.length ∧ ds.length ≤ 12 then (rowsDue ds).map Int.ofNat else some (-1) := by rw [ruleDue_s]; unfold sDue; rw [if_neg c1, if_pos c2]; rfl
              rw [ed]
              have it : ∀ hh, isinV [.tuple] hh (.tup ds) = .ok (.bl true) hh := it
              have src : ∀ hh, srcOf hh (.tup ds) = some (ds, []) := fun _ => rfl
              by_cases c3 : ds.length < 2
              · rw [if_neg (by omega)]
                show _ = R.ex "NoRule" [D.int (-1)] h
                simp only [F_right_rule]
                walk_at "allx"
              · by_cases c4 : 12 < ds.length
                · rw [if_neg (by omega)]
                  show _ = R.ex "NoRule" [D.int (-1)] h
                  simp only [F_right_rule]
                  walk_at "allx"
                · rw [if_pos (by omega)]
                  have lp := fun l hh => rr_loop (l := l) (hh := hh) (s := s) hN ha
                  cases f : rowsDue ds with
                  | none =>
                    rw [f] at lp
                    dsimp only at lp
                    show _ = R.ok (D.bl true) h
                    simp only [F_right_rule]
                    walk_at "all"
                  | some k =>
                    rw [f] at lp
                    dsimp only at lp
                    show _ = R.ex "NoRule" [D.int (k : Int)] h
                    simp only [F_right_rule]
                    walk_at "allx"
          · have b2 : (s == tS) = false := by rw [beq_eq_false_iff_ne]; exact c2
            rw [b2] at e2
            refine Eq.trans ?_ (bad _ (by rw [ruleDue_s]; unfold sDue; rw [if_neg c1, if_neg c2])).symm
            simp only [F_right_rule]
            walk_at "allx"
end
end V
end Mp

set_option maxRecDepth 100000
set_option maxHeartbeats 4000000
set_option exponentiation.threshold 10000
/-! Mq8: the laws' tables, rules, powers, speeds. -/
namespace Mp
open PySem
/-! ### a table in the making: j rows behind the first -/
structure TB (j : Nat) (rs : List Row) (a : Row) (s : Rat) : Prop where
  len : rs.length = j
  sz : ∀ r ∈ rs ++ [a], Sz 220 r.1 ∧ Sz 220 r.2
  l1 : Fr LL (j * M1) a.1
  l2 : Fr (LL * LL) (M1 * LL + j * (12 * M1 * M1)) a.2
  sl : Fr LL ((j + 1) * M1) s
  s0 : 0 < s
  inc : (rs ++ [a]).Pairwise fun a b => a.1 < b.1
  ub : ∀ r ∈ rs ++ [a], r.1 ≤ a.1
  cv : (pairs (rs ++ [a])).Pairwise fun p q => slope p.1 p.2 ≤ slope q.1 q.2
  pos : ∀ p ∈ pairs (rs ++ [a]), 0 < slope p.1 p.2
  ub2 : ∀ p ∈ pairs (rs ++ [a]), slope p.1 p.2 ≤ s
  head : ∃ p r, rs ++ [a] = (0, p) :: r ∧ 0 ≤ p
theorem LLLL0 : LL * LL ≠ 0 := by decide
theorem M1_lt : M1 < 2 ^ 101 := by decide
theorem LL_lt : LL < 2 ^ 71 := by decide
theorem TB.szs {j : Nat} {rs : List Row} {a : Row} {s : Rat} (t : TB j rs a s) (hj : j ≤ 11) : Sz 110 s := by
  refine t.sl.sz LL0 (Nat.lt_of_lt_of_le LL_lt (Nat.pow_le_pow_right (by decide) (by decide))) ?_
  have := M1_lt
  have : (j + 1) * M1 ≤ 12 * M1 := Nat.mul_le_mul_right _ (by omega)
  have : 12 * M1 < 2 ^ 110 := by decide
  omega
theorem slope_new {a : Row} {q s : Rat} (hq : 0 < q) : slope a (a.1 + q, a.2 + s * q) = s := by
  unfold slope
  have : q ≠ 0 := by grind
  simp only
  grind
theorem TB.next {j : Nat} {rs : List Row} {a : Row} {s s' q : Rat} (t : TB j rs a s) (hj : j < 11) (pq : Pt q) (hs : s' = s ∨ ∃ q', Pt q' ∧ s' = s + q') : TB (j + 1) (rs ++ [a]) (a.1 + q, a.2 + s * q) s' := by
  have hq := pq.pos
  have sn := slope_new (a := a) (s := s) hq
  have l1 : Fr LL ((j + 1) * M1) (a.1 + q) := by rw [Nat.add_mul, Nat.one_mul]; exact t.l1.add LL0 pq.fr
  have l2 : Fr (LL * LL) (M1 * LL + (j + 1) * (12 * M1 * M1)) (a.2 + s * q) := by
    rw [Nat.add_mul, Nat.one_mul, ← Nat.add_assoc]
    exact t.l2.add LLLL0 ((t.sl.mul pq.fr).mono (Nat.mul_le_mul_right _ (Nat.mul_le_mul_right _ (by omega))))
  have b1 : (j + 1) * M1 ≤ 11 * M1 := Nat.mul_le_mul_right _ (by omega)
  have b2 : (j + 1) * (12 * M1 * M1) ≤ 11 * (12 * M1 * M1) := Nat.mul_le_mul_right _ (by omega)
  have c1 : 11 * M1 < 2 ^ 220 := by decide
  have c2 : M1 * LL + 11 * (12 * M1 * M1) < 2 ^ 220 := by decide
  have pe : pairs (rs ++ [a] ++ [(a.1 + q, a.2 + s * q)]) = pairs (rs ++ [a]) ++ [(a, (a.1 + q, a.2 + s * q))] := by
    rw [List.append_assoc]; exact pairs_snoc _ _ _
  have hle : s ≤ s' := by
    rcases hs with rfl | ⟨q', p', rfl⟩
    · exact Rat.le_refl
    · have := p'.pos; grind
  refine ⟨by simp [t.len], ?_, l1, l2, ?_, by have := t.s0; grind, ?_, ?_, ?_, ?_, ?_, ?_⟩
  · intro r hr
    rcases List.mem_append.mp hr with hr | hr
    · exact t.sz r hr
    · rw [List.mem_singleton.mp hr]
      exact ⟨l1.sz LL0 (Nat.lt_of_lt_of_le LL_lt (Nat.pow_le_pow_right (by decide) (by decide))) (by omega), l2.sz LLLL0 (by decide) (by omega)⟩
  · rcases hs with rfl | ⟨q', p', rfl⟩
    · exact t.sl.mono (Nat.mul_le_mul_right _ (by omega))
    · rw [Nat.add_mul (j + 1), Nat.one_mul]
      exact t.sl.add LL0 p'.fr
  · rw [List.pairwise_append]
    refine ⟨t.inc, by simp, fun x hx y hy => ?_⟩
    rw [List.mem_singleton.mp hy]
    have := t.ub x hx
    simp only
    grind
  · intro r hr
    rcases List.mem_append.mp hr with hr | hr
    · have := t.ub r hr
      simp only
      grind
    · rw [List.mem_singleton.mp hr]; exact Rat.le_refl
  · rw [pe, List.pairwise_append]
    refine ⟨t.cv, by simp, fun x hx y hy => ?_⟩
    rw [List.mem_singleton.mp hy, sn]
    exact t.ub2 x hx
  · intro p hp
    rw [pe] at hp
    rcases List.mem_append.mp hp with hp | hp
    · exact t.pos p hp
    · rw [List.mem_singleton.mp hp, sn]; exact t.s0
  · intro p hp
    rw [pe] at hp
    rcases List.mem_append.mp hp with hp | hp
    · exact Rat.le_trans (t.ub2 p hp) hle
    · rw [List.mem_singleton.mp hp, sn]; exact hle
  · obtain ⟨p, r, e, h0⟩ := t.head
    exact ⟨p, r ++ [(a.1 + q, a.2 + s * q)], by rw [e]; rfl, h0⟩
theorem TB.tab {j : Nat} {rs : List Row} {a : Row} {s : Rat} (t : TB j rs a s) (h1 : 1 ≤ j) (h2 : j ≤ 11) : Tab (rs ++ [a]) :=
  ⟨by simp [t.len]; omega, by simp [t.len]; omega, t.sz, t.inc, t.cv, t.pos, t.head⟩
theorem TB.init {p s : Rat} (hp : p = 0 ∨ Pt p) (hs : Pt s) : TB 0 [] (0, p) s := by
  have p0 : 0 ≤ p := by
    rcases hp with rfl | hp
    · exact Rat.le_refl
    · exact Rat.le_of_lt hp.pos
  have sp : Sz 220 p := by
    rcases hp with rfl | hp
    · exact ⟨by decide, by decide⟩
    · exact hp.sz.mono (by decide)
  refine ⟨rfl, ?_, ?_, ?_, ?_, hs.pos, by simp, ?_, by simp [pairs], by simp [pairs], by simp [pairs], ⟨p, [], rfl, p0⟩⟩
  · intro r hr
    rw [List.mem_singleton.mp hr]
    exact ⟨(show Sz 220 (0 : Rat) from ⟨by decide, by decide⟩), sp⟩
  · simp only [Nat.zero_mul]; exact Fr.zero LL
  · rcases hp with rfl | hp
    · exact (Fr.zero _).mono (Nat.zero_le _)
    · simp only [Nat.zero_mul, Nat.add_zero]; exact hp.fr.scale LL LL0 LL0
  · simp only [Nat.zero_add, Nat.one_mul]; exact hs.fr
  · intro r hr
    rw [List.mem_singleton.mp hr]
    exact Rat.le_refl
namespace Lw
section
variable {l : List Nat} {h : Hh}
theorem seq_row {a : Row} {hh : Hh} : Mp.seqOf hh (rowD a) = some [ratD a.1, ratD a.2] := rfl
theorem und_row (b : Nat) (a : Row) : (rowD a).und b = true := by simp [rowD, D.und, D.unds, und_rat]
theorem unds_rows (b : Nat) : ∀ rows : List Row, D.unds b (rows.map rowD) = true
  | [] => rfl
  | a :: r => by simp [D.unds, und_row, unds_rows b r]
theorem und_rule (b : Nat) (ρ : Rule) : ρ.D.und b = true := by
  cases ρ with
  | pw k => simp [Rule.D, D.und, D.unds]
  | tb rows =>
    have := unds_rows b rows
    simp [Rule.D, D.und, D.unds, rowsD, this]
theorem fin_und {b : Nat} {d : D} (u : d.und b = true) {hh : Hh} (e : hh.length = b) : fin false b d hh = .ok d hh := by
  subst e
  simp [fin, u]
theorem atD_neg1 {α : Type} (xs : List α) (x : α) : atD (xs ++ [x]) (-1) = some x := by
  unfold atD ixAt
  rw [if_neg (by decide), if_pos (by simp; omega)]
  show (xs ++ [x])[(-1 + ((xs ++ [x]).length : Int)).toNat]? = _
  rw [show (-1 + ((xs ++ [x]).length : Int)).toNat = xs.length by simp; omega]
  simp
theorem table_turn {n k j : Nat} {ds : List D} {rs : List Row} {a : Row} {s : Rat} {d : D} (hn : n < h.length) (t : IsTape (h.set n (.lst ds) ++ [.lst ((rs ++ [a]).map rowD)]) n k) (hk : k + 20 < 2 ^ 40) (tb : TB j rs a s) (hj : j < 11) :
    ∃ b s' ds', TB (j + 1) (rs ++ [a]) b s' ∧ turnK [3] [3, 4, 5, 6] (exL l F_law_table_b1) d [some (.ref n), some (.ref h.length), some (ratD s), none, none, none, none] (h.set n (.lst ds) ++ [.lst ((rs ++ [a]).map rowD)]) =
      .ok (.nx [some (.ref n), some (.ref h.length), some (ratD s'), none, none, none, none]) (h.set n (.lst ds') ++ [.lst ((rs ++ [a] ++ [b]).map rowD)]) ∧ IsTape (h.set n (.lst ds') ++ [.lst ((rs ++ [a] ++ [b]).map rowD)]) n (k + 11) := by
  have st : ∀ (a b : List D) (o : Ob), (h.set n (.lst a) ++ [o]).set n (.lst b) = h.set n (.lst b) ++ [o] := fun a b o => by rw [set_left (by simpa using hn), List.set_set]
  obtain ⟨q, d1, pq, e1, t1⟩ := part_ok (l := l) t (by omega)
  rw [st] at e1 t1
  obtain ⟨sa1, sa2⟩ := tb.sz a (by simp)
  have ss := tb.szs (by omega)
  have p1 := fun hh => plus_ok (l := l) (h := hh) sa1 pq.sz (by decide)
  have p2 := fun hh => times_ok (l := l) (h := hh) ss pq.sz (by decide)
  have p3 := fun hh => plus_ok (l := l) (h := hh) sa2 (ss.mul pq.sz) (by decide)
  have nb : D.tup [ratD (a.1 + q), ratD (a.2 + s * q)] = rowD (a.1 + q, a.2 + s * q) := rfl
  have gl : ∀ x, getL (h.set n (.lst x) ++ [.lst ((rs ++ [a]).map rowD)]) h.length = some ((rs ++ [a]).map rowD) := fun x => getL_last (by simp)
  have ix : ∀ x, ixV (h.set n (.lst x) ++ [.lst ((rs ++ [a]).map rowD)]) (.ref h.length) (.int (-1)) = .ok (rowD a) (h.set n (.lst x) ++ [.lst ((rs ++ [a]).map rowD)]) := fun x => ixV_ref (gl x) (by rw [List.map_append]; exact atD_neg1 _ _)
  have ap := app_ok (l := l) (h := h.set n (.lst d1) ++ [.lst ((rs ++ [a]).map rowD)]) (d := rowD (a.1 + q, a.2 + s * q)) (gl d1) (by simp [stOk, und_row]) (by have := tb.len; simp; omega)
  rw [set_last (by simp)] at ap
  have ml : (rs ++ [a]).map rowD ++ [rowD (a.1 + q, a.2 + s * q)] = (rs ++ [a] ++ [(a.1 + q, a.2 + s * q)]).map rowD := by simp
  rw [ml] at ap
  have rc := fun x => recv_ref (gl x)
  have t1' := ((t1.left (by simpa using hn)).app (g := [.lst ((rs ++ [a] ++ [(a.1 + q, a.2 + s * q)]).map rowD)]))
  obtain ⟨v, d2, a2, b2, e2, t2⟩ := draw_ok (l := l) t1' (by omega) (m := 4) (by decide) (by decide)
  rw [st] at e2 t2
  have two : 2 ≤ sizeLine := by decide
  generalize hb : ((a.1 + q, a.2 + s * q) : Row) = b at *
  by_cases hv : 0 < v
  · obtain ⟨q', d3, pq', e3, t3⟩ := part_ok (l := l) t2 (by omega)
    rw [st] at e3 t3
    have p4 := fun hh => plus_ok (l := l) (h := hh) ss pq'.sz (by decide)
    refine ⟨b, s + q', d3, hb ▸ tb.next hj pq (.inr ⟨q', pq', rfl⟩), ?_, t3.mono (by omega)⟩
    generalize (rs ++ [a] ++ [b]).map rowD = R2 at *
    generalize (rs ++ [a]).map rowD = R1 at *
    simp [turnK, F_law_table_b1, e1, ix, seq_row, someV, p1, p2, p3, two, nb, bmTy, rc, ap, e2, cop_gt, hv, e3, p4]
  · refine ⟨b, s, d2, hb ▸ tb.next hj pq (.inl rfl), ?_, t2.mono (by omega)⟩
    generalize (rs ++ [a] ++ [b]).map rowD = R2 at *
    generalize (rs ++ [a]).map rowD = R1 at *
    simp [turnK, F_law_table_b1, e1, ix, seq_row, someV, p1, p2, p3, two, nb, bmTy, rc, ap, e2, cop_gt, hv]
theorem table_ok {n k : Nat} (t : IsTape h n k) (hk : k + 200 < 2 ^ 40) : ∃ rows ds, Tab rows ∧ callF l F_law_table [.ref n] h = .ok (Rule.tb rows).D (h.set n (.lst ds)) ∧ IsTape (h.set n (.lst ds)) n (k + 200) := by
  have hn := t.lt
  obtain ⟨q, d1, pq, e1, t1⟩ := part_ok (l := h.length :: l) t (by omega)
  obtain ⟨v, d2, a2, b2, e2, t2⟩ := draw_ok (l := h.length :: l) t1 (by omega) (m := 2) (by decide) (by decide)
  rw [List.set_set] at e2 t2
  obtain ⟨x, hx, ix⟩ := atD_mem (xs := [ratD 0, ratD q]) a2 b2
  obtain ⟨p, rfl, hp⟩ : ∃ p, x = ratD p ∧ (p = 0 ∨ Pt p) := by
    simp only [List.mem_cons, List.not_mem_nil, or_false] at hx
    rcases hx with rfl | rfl
    · exact ⟨0, rfl, .inl rfl⟩
    · exact ⟨q, rfl, .inr pq⟩
  have ml0 : D.tup [ratD 0, ratD p] = rowD (0, p) := rfl
  obtain ⟨s, d3, ps, e3, t3⟩ := part_ok (l := h.length :: l) (t2.app (g := [.lst [rowD (0, p)]])) (by omega)
  have st : ∀ (a b : List D) (o : Ob), (h.set n (.lst a) ++ [o]).set n (.lst b) = h.set n (.lst b) ++ [o] := fun a b o => by rw [set_left (by simpa using hn), List.set_set]
  rw [st] at e3 t3
  obtain ⟨w, d4, a4, b4, e4, t4⟩ := draw_ok (l := h.length :: l) t3 (by omega) (m := 5) (by decide) (by decide)
  rw [st] at e4 t4
  obtain ⟨y, hy, iy⟩ := atD_mem (xs := [.int 1, .int 2, .int 3, .int 5, .int 11]) a4 b4
  obtain ⟨m, rfl, m1, m2⟩ : ∃ m : Nat, y = .int m ∧ 1 ≤ m ∧ m ≤ 11 := by
    simp only [List.mem_cons, List.not_mem_nil, or_false] at hy
    rcases hy with rfl | rfl | rfl | rfl | rfl
    · exact ⟨1, rfl, by decide, by decide⟩
    · exact ⟨2, rfl, by decide, by decide⟩
    · exact ⟨3, rfl, by decide, by decide⟩
    · exact ⟨5, rfl, by decide, by decide⟩
    · exact ⟨11, rfl, by decide, by decide⟩
  obtain ⟨σ', h', e5, ds, rs, a, s', rfl, rfl, tb, t5⟩ := forE_rg0 (l := h.length :: l) (tg := [3]) (kill := [3, 4, 5, 6]) (body := F_law_table_b1)
    (fun j σ g => ∃ ds rs a s', σ = [some (.ref n), some (.ref h.length), some (ratD s'), none, none, none, none] ∧ g = h.set n (.lst ds) ++ [.lst ((rs ++ [a]).map rowD)] ∧ TB j rs a s' ∧ IsTape g n (k + 20 + 11 * j)) m
    (fun j σ g hj ⟨ds, rs, a, s', e, eg, tb, tg⟩ => by
      subst e eg
      obtain ⟨b, s2, ds', tb', et, tt⟩ := table_turn (l := h.length :: l) (d := .int j) hn tg (by omega) tb (by omega)
      exact ⟨_, _, et, ds', rs ++ [a], b, s2, rfl, rfl, tb', tt.mono (by omega)⟩)
    (σ := [some (.ref n), some (.ref h.length), some (ratD s), none, none, none, none]) (h := h.set n (.lst d4) ++ [.lst [rowD (0, p)]]) ⟨d4, [], (0, p), s, rfl, rfl, TB.init hp ps, t4.mono (by omega)⟩
  refine ⟨rs ++ [a], ds, tb.tab m1 m2, ?_, (t5.left (by simpa using hn)).mono (by omega)⟩
  have rv := fun hh => rgV_ok (h := hh) (rgOk_nat (k := m) (by omega))
  have iv := fun hh => ixV_lst (h := hh) ix
  have iw := fun hh => ixV_lst (h := hh) iy
  have one : 1 ≤ sizeLine := by decide
  have two : 2 ≤ sizeLine := by decide
  have five : 5 ≤ sizeLine := by decide
  have z : D.tup [.int 0, .int 1] = ratD 0 := rfl
  have bt : ∀ x, blt .tuple (h.set n (.lst x) ++ [.lst ((rs ++ [a]).map rowD)]) [.ref h.length] = .ok (rowsD (rs ++ [a])) (h.set n (.lst x) ++ [.lst ((rs ++ [a]).map rowD)]) := fun x => by
    have : getL (h.set n (.lst x) ++ [.lst ((rs ++ [a]).map rowD)]) h.length = some ((rs ++ [a]).map rowD) := getL_last (by simp)
    simp only [blt, b_tuple, Mp.seqOf, Mp.listOf, lstOf, this]
    rfl
  have tD : D.tup [.str (Str.ofString "table"), rowsD (rs ++ [a])] = (Rule.tb (rs ++ [a])).D := rfl
  have body : exL (h.length :: l) (Fn.body F_law_table) [some (.ref n), none, none, none, none, none, none] h = .ok (.rt (Rule.tb (rs ++ [a])).D) (h.set n (.lst ds) ++ [.lst ((rs ++ [a]).map rowD)]) := by
    have ln : ∀ x, (h.set n (.lst x)).length = h.length := fun x => by simp
    simp only [F_law_table, Fn.body, exL_cons, exL_nil, exS_set, exS_for, exS_ret, evE_alloc, evE_lst, evL_nil, evE_tup, evE_ix, evE_blt, evE_var, evE_call, evI_rg1, evL_cons, evE_cst, varV, List.getElem?_cons_succ, List.getElem?_cons_zero, R.bind_ok, stE_ok, seqFl,
      List.length_cons, List.length_nil, one, two, five, if_true, allocV, List.set_cons_succ, List.set_cons_zero, z, e1, e2, iv, ml0, ln, e3, e4, iw, rv, killAll, e5, bt, tD]
  rw [callF_rt (σ := [some (.ref n), none, none, none, none, none, none]) F_law_table rfl rfl rfl rfl body]
  have u := und_rule h.length (Rule.tb (rs ++ [a]))
  have tk : List.take h.length (h.set n (.lst ds) ++ [Ob.lst ((rs ++ [a]).map rowD)]) = h.set n (.lst ds) := by
    rw [List.take_append_of_le_length (by simp), List.take_of_length_le (by simp)]
  simp [fin, u, tk]
theorem rule_ok {n k : Nat} (t : IsTape h n k) (hk : k + 202 < 2 ^ 40) : ∃ ρ ds, Rule.Ok ρ ∧ callF l F_law_rule [.ref n] h = .ok ρ.D (h.set n (.lst ds)) ∧ IsTape (h.set n (.lst ds)) n (k + 202) := by
  obtain ⟨v, d1, a1, b1, e1, t1⟩ := draw_ok (l := h.length :: l) t (by omega) (m := 3) (by decide) (by decide)
  by_cases hv : v = 0
  · obtain ⟨w, d2, a2, b2, e2, t2⟩ := draw_ok (l := h.length :: l) t1 (by omega) (m := 3) (by decide) (by decide)
    rw [List.set_set] at e2 t2
    obtain ⟨m, hm⟩ : ∃ m : Nat, 2 + w = m := ⟨(2 + w).toNat, by omega⟩
    have two : 2 ≤ sizeLine := by decide
    refine ⟨.pw m, d2, ⟨by omega, by omega⟩, ?_, t2.mono (by omega)⟩
    have pD : D.tup [.str (Str.ofString "power"), .int m] = (Rule.pw m).D := rfl
    simp [F_law_rule, e1, cop_eq, hv, e2, bop_add, two, hm, pD]
    exact fin_und (und_rule _ _) set_len
  · obtain ⟨rows, d2, tb, e2, t2⟩ := table_ok (l := h.length :: l) t1 (by omega)
    rw [List.set_set] at e2 t2
    have hv' : (v == 0) = false := by simpa using hv
    refine ⟨.tb rows, d2, tb, ?_, t2.mono (by omega)⟩
    simp [F_law_rule, e1, cop_eq, hv', e2]
    exact fin_und (und_rule _ _) set_len
end
end Lw
end Mp

set_option maxRecDepth 100000
set_option maxHeartbeats 4000000
set_option exponentiation.threshold 10000
/-! Mq9: powers and speeds of the laws; comprehensions that draw. -/
namespace Mp
open PySem
theorem forE_same {l : List Nat} {tg kill : List Nat} {body : SL} {σ : Sg} {h : Hh} : ∀ {xs : List D}, (∀ d ∈ xs, turnK tg kill (exL l body) d σ h = .ok (.nx σ) h) → forE l tg body kill [] xs σ h = .ok (.nx σ) h
  | [], _ => forE_nil
  | d :: ds, s => by rw [forE_cons (s d (by simp))]; exact forE_same fun x hx => s x (by simp [hx])
theorem compE_nil {l : List Nat} {tg : List Nat} {e c : E} {σ : Sg} {h : Hh} : compE l e tg c [] [] σ h = .ok [] h := by simp [compE, compL, ifW, watch_nil]
theorem compE_cons {l : List Nat} {tg : List Nat} {e c : E} {σ : Sg} {h h1 h2 : Hh} {d x : D} {ds xs : List D} (e1 : itemK tg σ (isNo c) (evE l c) (evE l e) d h = .ok (some x) h1) (e2 : compE l e tg c [] ds σ h1 = .ok xs h2) : compE l e tg c [] (d :: ds) σ h = .ok (x :: xs) h2 := by
  unfold compE at e2 ⊢
  generalize isNo c = nc at *
  simp [compL, ifW, watch_nil, e1, e2]
theorem IsTape.self {h : Hh} {n k : Nat} (t : IsTape h n k) : ∃ ds, h.set n (.lst ds) = h := by
  obtain ⟨xs, s, f, p, g, _⟩ := t
  exact ⟨_, set_self g⟩
/-- items that are drawn -/
theorem compE_tape {l : List Nat} {tg : List Nat} {e : E} {σ : Sg} {n c : Nat} {P : D → Prop} (step : ∀ d h k, IsTape h n k → k + c < 2 ^ 40 → ∃ x ds, itemK tg σ true (evE l .no) (evE l e) d h = .ok (some x) (h.set n (.lst ds)) ∧ P x ∧ IsTape (h.set n (.lst ds)) n (k + c)) :
    ∀ (xs : List D) (h : Hh) (k : Nat), IsTape h n k → k + c * xs.length < 2 ^ 40 → ∃ ys ds, compE l e tg .no [] xs σ h = .ok ys (h.set n (.lst ds)) ∧ ys.length = xs.length ∧ (∀ y ∈ ys, P y) ∧ IsTape (h.set n (.lst ds)) n (k + c * xs.length)
  | [], h, k, t, _ => by
    obtain ⟨ds, e⟩ := t.self
    exact ⟨[], ds, by rw [e]; exact compE_nil, rfl, by simp, by rw [e]; exact t⟩
  | d :: xs, h, k, t, hk => by
    rw [List.length_cons, Nat.mul_add] at hk
    obtain ⟨x, d1, e1, p1, t1⟩ := step d h k t (by omega)
    obtain ⟨ys, d2, e2, l2, p2, t2⟩ := compE_tape step xs _ _ t1 (by omega)
    rw [List.set_set] at e2 t2
    refine ⟨x :: ys, d2, compE_cons e1 e2, by simp [l2], fun y hy => ?_, ?_⟩
    · rcases List.mem_cons.mp hy with rfl | hy
      · exact p1
      · exact p2 y hy
    · rw [List.length_cons, Nat.mul_add]
      exact t2.mono (by omega)
theorem bop_addL {h : Hh} {xs ys : List D} (hl : xs.length + ys.length ≤ 1000000) : bop .add h (.lst xs) (.lst ys) = .ok (.lst (xs ++ ys)) h := by
  have : xs.length + ys.length ≤ sizeLine := Nat.le_trans hl (by decide)
  simp [bop, lstOf, this]
def optD : Option Rat → D
  | some q => ratD q
  | none => .non
theorem Tab.nn {rows : List Row} (t : Tab rows) : ∀ r ∈ rows, 0 ≤ r.1 := by
  intro r hr
  obtain ⟨p, rs, e, _⟩ := t.head
  have inc := t.inc
  rw [e] at hr inc
  rcases List.mem_cons.mp hr with rfl | hr
  · exact Rat.le_refl
  · exact Rat.le_of_lt ((List.pairwise_cons.mp inc).1 r hr)
namespace Lw
section
variable {l : List Nat} {h : Hh}
theorem power_loop {rows : List Row} (t : Tab rows) {v : Rat} (sv : Sz 443 v) {a : D} :
    forE l [2, 3] F_law_power_b2 [2, 3, 6] [] (zipD (rows.map rowD) ((rows.map rowD).drop 1)) [some a, some (ratD v), none, none, none, none, none] h = .ok (lookFl [some a, some (ratD v), none, none, none, none, none] ((powT rows v).map ratD)) h := by
  have ze : zipD (rows.map rowD) ((rows.map rowD).drop 1) = (pairs rows).map fun p => D.tup [rowD p.1, rowD p.2] := by
    unfold zipD pairs
    rw [← List.map_drop, List.zip_map, List.map_map]
    rfl
  have e := forE_look (l := l) (tg := [2, 3]) (kill := [2, 3, 6]) (body := F_law_power_b2) (σ := [some a, some (ratD v), none, none, none, none, none]) (h := h) (fun p : Row × Row => D.tup [rowD p.1, rowD p.2])
    (fun p => if p.2.1 < v then none else some (ratD (onLine p.1 p.2 v))) (pairs rows) (fun p hp => by
      obtain ⟨s1, s2, s3, s4⟩ := t.ps hp
      have hlt := t.lt hp
      obtain ⟨x, y⟩ := p
      simp only at s1 s2 s3 s4 hlt
      have e1 := fun hh => P.is_less_ok (l := l) (h := hh) s3 sv (by decide)
      have e2 := fun hh => minus_ok (l := l) (h := hh) s4 s2 (by decide)
      have e2' := fun hh => minus_ok (l := l) (h := hh) s3 s1 (by decide)
      have e2'' := fun hh => over_ok (l := l) (h := hh) (s4.sub s2) (s3.sub s1) (by decide) (sub_ne hlt)
      have sl : (y.2 - x.2) / (y.1 - x.1) = slope x y := rfl
      rw [sl] at e2''
      have e3 := fun hh => minus_ok (l := l) (h := hh) sv s1 (by decide)
      have e4 := fun hh => times_ok (l := l) (h := hh) (sz_slope hlt s1 s2 s3 s4) (sv.sub s1) (by decide)
      have e5 := fun hh => plus_ok (l := l) (h := hh) s2 ((sz_slope hlt s1 s2 s3 s4).mul (sv.sub s1)) (by decide)
      have ln : x.2 + slope x y * (v - x.1) = onLine x y v := rfl
      rw [ln] at e5
      by_cases c : y.1 < v
      · simp [turnK, F_law_power_b2, row0, F_law_less, e1, c, lookFl]
      · simp [turnK, F_law_power_b2, row0, row1, F_law_less, e1, c, lookFl, e2, e2', e2'', e3, e4, e5])
  rw [ze, e]
  have g : (pairs rows).findSome? (fun p => if p.2.1 < v then none else some (ratD (onLine p.1 p.2 v))) = (powT rows v).map ratD := by
    unfold powT
    rw [List.map_findSome?]
    congr 1
    funext p
    by_cases c : p.2.1 < v <;> simp [c]
  rw [g]
theorem cut1 {α : Type} (xs : List α) : cut xs (some 1) none = xs.drop 1 := by
  unfold cut cutIx
  simp only [show ¬ ((1 : Int) < 0) by decide, if_false]
  show (xs.drop (min 1 xs.length)).take (xs.length - min 1 xs.length) = _
  by_cases h0 : xs.length = 0
  · have : xs = [] := List.length_eq_zero_iff.mp h0
    subst this; rfl
  · rw [Nat.min_eq_left (by omega), List.take_of_length_le (by simp)]
theorem power_ok {ρ : Rule} {v : Rat} (ok : ρ.Ok) (sv : Sz 443 v) : callF l F_law_power [ρ.D, ratD v] h = .ok (optD (ρ.pow v)) h := by
  cases ρ with
  | pw k =>
    obtain ⟨k1, k2⟩ := ok
    obtain ⟨m, rfl⟩ : ∃ m, k = m + 1 := ⟨k - 1, by omega⟩
    obtain ⟨σ', h', e, rfl, eh⟩ := forE_rg0 (l := h.length :: l) (tg := [5]) (kill := [5]) (body := F_law_power_b1)
      (fun j σ g => σ = [some (Rule.pw (m + 1)).D, some (ratD v), none, none, some (ratD (v ^ (j + 1))), none, none] ∧ g = h) m
      (fun j σ g hj ⟨e, eg⟩ => by
        subst e eg
        refine ⟨_, _, ?_, rfl, rfl⟩
        have sj := P.Sz.pow sv (by decide) (j + 1)
        have b : 443 * (j + 1) ≤ 443 * 4 := Nat.mul_le_mul_left _ (by omega)
        have e1 := fun hh => times_ok (l := g.length :: l) (h := hh) sj sv (by omega)
        rw [← Rat.pow_succ] at e1
        generalize v ^ (j + 1) = X at *
        generalize v ^ (j + 1 + 1) = Y at *
        simp [turnK, F_law_power_b1, e1]) (σ := [some (Rule.pw (m + 1)).D, some (ratD v), none, none, some (ratD (v ^ (0 + 1))), none, none]) (h := h) ⟨rfl, rfl⟩
    rw [Nat.zero_add, Rat.pow_one, eh] at e
    clear eh
    have rv := fun hh => rgV_ok (h := hh) (rgOk_nat (k := m) (by omega))
    have b0 : ∀ hh, bop .sub hh (.int ((m + 1 : Nat) : Int)) (.int 1) = .ok (.int (m : Int)) hh := fun hh => by
      rw [bop_sub, show ((m + 1 : Nat) : Int) - 1 = m by omega]
    have pq1 : ∀ hh, ixV hh (Rule.pw (m + 1)).D (.int 1) = .ok (.int ((m + 1 : Nat) : Int)) hh := fun hh => pw1
    show _ = R.ok (ratD (v ^ (m + 1))) h
    generalize v ^ (m + 1) = z at *
    generalize rg 0 (m : Int) = xs at *
    generalize hD : D.int ((m + 1 : Nat) : Int) = kd at *
    simp [F_law_power, pw0, pp_eq, pq1, hD, b0, rv, e]
    exact P.fin_rat rfl
  | tb rows =>
    have e := power_loop (l := h.length :: l) (h := h) ok sv (a := (Rule.tb rows).D)
    have i1 : ∀ hh, ixV hh (Rule.tb rows).D (.int 1) = .ok (.tup (rows.map rowD)) hh := fun hh => rfl
    have sl : ∀ hh, slV hh (.tup (rows.map rowD)) (some 1) none = .ok (.tup ((rows.map rowD).drop 1)) hh := fun hh => by
      show R.ok (D.tup (cut (rows.map rowD) (some 1) none)) hh = _
      rw [cut1]
    show _ = R.ok (optD (powT rows v)) h
    generalize hz : zipD (rows.map rowD) ((rows.map rowD).drop 1) = zs at e
    generalize (rows.map rowD).drop 1 = ys at hz sl
    generalize rows.map rowD = xs at hz sl i1
    cases q : powT rows v with
    | none =>
      rw [q] at e
      simp [F_law_power, tab0, tp_eq, i1, sl, isTup, someV, hz, e, lookFl, optD]
      simp [fin, D.und]
    | some z =>
      rw [q] at e
      simp [F_law_power, tab0, tp_eq, i1, sl, isTup, someV, hz, e, lookFl, optD]
      exact P.fin_rat rfl
def half (a b : Rat) : Rat := (a + b) / 2
theorem two_is : D.tup [(.int 2), (.int 1)] = ratD 2 := rfl
noncomputable def E_speed1 : E := .ix (.lst (.cons (.tup (.cons (.cst (.int 0)) (.cons (.cst (.int 1)) .nil))) (.cons (.call "_law_part" F_law_part (.cons (.var 0) .nil)) (.cons (.call "_law_part" F_law_part (.cons (.var 0) .nil)) .nil)))) (.call "_law_draw" F_law_draw (.cons (.var 0) (.cons (.cst (.int 3)) .nil)))
theorem speed_is : F_law_speed = .mk 2 5 false
  (.cons (.ite (.or (.cmp .eq (.ix (.var 1) (.cst (.int 0))) (.cst (.str (Str.ofString "power")))) (.cmp .eq (.call "_law_draw" F_law_draw (.cons (.var 0) (.cons (.cst (.int 6)) .nil))) (.cst (.int 0))))
 (.cons (.ret E_speed1)
  .nil)
 .nil)
  (.cons (.unp [2, 3] (.comp (.ix (.ix (.ix (.var 1) (.cst (.int 1))) (.call "_law_draw" F_law_draw (.cons (.var 0) (.cons (.blt .len (.cons (.ix (.var 1) (.cst (.int 1))) .nil)) .nil)))) (.cst (.int 0))) [4] (.rg1 (.cst (.int 2))) .no))
  (.cons (.ret (.call "_law_over" F_law_over (.cons (.call "_law_plus" F_law_plus (.cons (.var 2) (.cons (.var 3) .nil))) (.cons (.tup (.cons (.cst (.int 2)) (.cons (.cst (.int 1)) .nil))) .nil))))
  .nil))) := rfl
theorem speed_ok {ρ : Rule} (ok : ρ.Ok) {n k : Nat} (t : IsTape h n k) (hk : k + 20 < 2 ^ 40) : ∃ v ds, Sz 443 v ∧ 0 ≤ v ∧ callF l F_law_speed [.ref n, ρ.D] h = .ok (ratD v) (h.set n (.lst ds)) ∧ IsTape (h.set n (.lst ds)) n (k + 20) := by
  have hn := t.lt
  have two : 2 ≤ sizeLine := by decide
  have three : 3 ≤ sizeLine := by decide
  have z : D.tup [.int 0, .int 1] = ratD 0 := rfl
  -- the first kind
  have first : ∀ (h : Hh) (k : Nat), IsTape h n k → k + 12 < 2 ^ 40 → ∀ l, ∃ v ds, Sz 443 v ∧ 0 ≤ v ∧ (∀ σ : Sg, σ[0]? = some (some (.ref n)) → evE l E_speed1 σ h = .ok (ratD v) (h.set n (.lst ds))) ∧ IsTape (h.set n (.lst ds)) n (k + 12) := by
    intro h k t hk l
    obtain ⟨q1, d1, p1, e1, t1⟩ := part_ok (l := l) t (by omega)
    obtain ⟨q2, d2, p2, e2, t2⟩ := part_ok (l := l) t1 (by omega)
    rw [List.set_set] at e2 t2
    obtain ⟨w, d3, a3, b3, e3, t3⟩ := draw_ok (l := l) t2 (by omega) (m := 3) (by decide) (by decide)
    rw [List.set_set] at e3 t3
    obtain ⟨y, hy, iy⟩ := atD_mem (xs := [ratD 0, ratD q1, ratD q2]) a3 b3
    obtain ⟨v, rfl, sv, v0⟩ : ∃ v, y = ratD v ∧ Sz 443 v ∧ 0 ≤ v := by
      simp only [List.mem_cons, List.not_mem_nil, or_false] at hy
      rcases hy with rfl | rfl | rfl
      · exact ⟨0, rfl, ⟨by decide, by decide⟩, Rat.le_refl⟩
      · exact ⟨q1, rfl, p1.sz.mono (by decide), Rat.le_of_lt p1.pos⟩
      · exact ⟨q2, rfl, p2.sz.mono (by decide), Rat.le_of_lt p2.pos⟩
    have iw := fun hh => ixV_lst (h := hh) iy
    refine ⟨v, d3, sv, v0, fun σ hσ => ?_, t3.mono (by omega)⟩
    have v0 : ∀ hh, varV σ 0 hh = .ok (.ref n) hh := fun hh => by simp [varV, hσ]
    simp only [E_speed1, evE_ix, evE_lst, evE_tup, evL_cons, evL_nil, evE_cst, evE_call, evE_var, v0, R.bind_ok, e1, e2, e3, List.length_cons, List.length_nil, two, three, if_true, z, iw]
  cases ρ with
  | pw m =>
    obtain ⟨v, ds, sv, v0, e, t1⟩ := first h k t (by omega) (h.length :: l)
    have e' := e [some (.ref n), some (Rule.pw m).D, none, none, none] rfl
    refine ⟨v, ds, sv, v0, ?_, t1.mono (by omega)⟩
    have body : exL (h.length :: l) (Fn.body F_law_speed) [some (.ref n), some (Rule.pw m).D, none, none, none] h = .ok (.rt (ratD v)) (h.set n (.lst ds)) := by
      simp only [speed_is, Fn.body, exL_cons, exS_ite, exS_ret, e', evE_or, evE_cmp, evE_var, varV, List.getElem?_cons_succ, List.getElem?_cons_zero, R.bind_ok, evE_cst, evE_ix, pw0, pp_eq, boolV, if_true, stE_ok, seqFl]
    rw [callF_rt (σ := [some (.ref n), some (Rule.pw m).D, none, none, none]) F_law_speed rfl rfl rfl rfl body, P.fin_rat set_len]
  | tb rows =>
    obtain ⟨c, d1, a1, b1, e1, t1⟩ := draw_ok (l := h.length :: l) t (by omega) (m := 6) (by decide) (by decide)
    by_cases hc : c = 0
    · obtain ⟨v, ds, sv, v0, e, t2⟩ := first _ _ t1 (by omega) (h.length :: l)
      rw [List.set_set] at t2
      have e' := e [some (.ref n), some (Rule.tb rows).D, none, none, none] rfl
      rw [List.set_set] at e'
      refine ⟨v, ds, sv, v0, ?_, t2.mono (by omega)⟩
      have c0 : (c == 0) = true := by simpa using hc
      have body : exL (h.length :: l) (Fn.body F_law_speed) [some (.ref n), some (Rule.tb rows).D, none, none, none] h = .ok (.rt (ratD v)) (h.set n (.lst ds)) := by
        simp only [speed_is, Fn.body, exL_cons, exL_nil, exS_ite, exS_ret, e', evE_or, evE_cmp, evE_var, evE_call, evL_cons, evL_nil, e1, cop_eq, c0, varV, List.getElem?_cons_succ, List.getElem?_cons_zero, R.bind_ok, evE_cst, evE_ix, tab0, tp_eq, boolV, if_true, Bool.false_eq_true, if_false, stE_ok, seqFl]
      rw [callF_rt (σ := [some (.ref n), some (Rule.tb rows).D, none, none, none]) F_law_speed rfl rfl rfl rfl body, P.fin_rat set_len]
    · have tb : Tab rows := ok
      have len0 : 0 < rows.length := by have := tb.len; omega
      have item : ∀ d (g : Hh) (k : Nat), IsTape g n k → k + 1 < 2 ^ 40 → ∃ x ds, itemK [4] [some (.ref n), some (Rule.tb rows).D, none, none, none] true (evE (h.length :: l) .no) (evE (h.length :: l) (.ix (.ix (.ix (.var 1) (.cst (.int 1))) (.call "_law_draw" F_law_draw (.cons (.var 0) (.cons (.blt .len (.cons (.ix (.var 1) (.cst (.int 1))) .nil)) .nil)))) (.cst (.int 0)))) d g = .ok (some x) (g.set n (.lst ds)) ∧
          (∃ r ∈ rows, x = ratD r.1) ∧ IsTape (g.set n (.lst ds)) n (k + 1) := by
        intro d g k tg hk
        obtain ⟨w, d2, a2, b2, e2, t2⟩ := draw_ok (l := h.length :: l) tg (by omega) (m := rows.length) (by omega) (by have := tb.len'; omega)
        obtain ⟨j, rfl⟩ : ∃ j : Nat, w = j := ⟨w.toNat, by omega⟩
        have hj : j < rows.length := by omega
        have ir := fun hh => ix_rows (hh := hh) (List.getElem?_eq_getElem hj)
        refine ⟨_, d2, ?_, ⟨rows[j], List.getElem_mem hj, rfl⟩, t2⟩
        generalize rows[j] = x at *
        simp [itemK, tab1, len_rows, e2, ir, row0]
      obtain ⟨ys, d3, e3, l3, p3, t3⟩ := compE_tape (c := 1) item (rg 0 2) _ _ t1 (by simp [rg]; omega)
      rw [List.set_set] at e3 t3
      have lr : (rg 0 2).length = 2 := rfl
      rw [lr] at l3 t3
      obtain ⟨y1, y2, rfl⟩ : ∃ y1 y2, ys = [y1, y2] := by
        match ys, l3 with
        | [a, b], _ => exact ⟨a, b, rfl⟩
      obtain ⟨r1, m1, rfl⟩ := p3 y1 (by simp)
      obtain ⟨r2, m2, rfl⟩ := p3 y2 (by simp)
      have s1 := (tb.sz r1 m1).1
      have s2 := (tb.sz r2 m2).1
      have sp := s1.add s2
      have st : Sz 2 (2 : Rat) := ⟨by decide, by decide⟩
      have e4 := fun hh => plus_ok (l := h.length :: l) (h := hh) s1 s2 (by decide)
      have e5 := fun hh => over_ok (l := h.length :: l) (h := hh) sp st (by decide) (by decide)
      have hf : (r1.1 + r2.1) / 2 = half r1.1 r2.1 := rfl
      rw [hf] at e5
      refine ⟨half r1.1 r2.1, d3, (sp.div st (by decide)).mono (by decide), ?_, ?_, t3.mono (by omega)⟩
      · have n1 := tb.nn r1 m1
        have n2 := tb.nn r2 m2
        unfold half
        grind
      · have c0 : (c == 0) = false := by simpa using hc
        have rv2 : ∀ hh, rgV (.int 0) (.int 2) hh = .ok (rg 0 2, []) hh := fun hh => rgV_ok (by decide)
        have l2 : 0 + 1 + 1 < sizeLine := by decide
        have sq : ∀ hh, Mp.seqOf hh (.lst [ratD r1.1, ratD r2.1]) = some [ratD r1.1, ratD r2.1] := fun hh => rfl
        generalize half r1.1 r2.1 = v at *
        generalize rg 0 2 = xs at *
        have body : exL (h.length :: l) (Fn.body F_law_speed) [some (.ref n), some (Rule.tb rows).D, none, none, none] h = .ok (.rt (ratD v)) (h.set n (.lst d3)) := by
          simp only [speed_is, Fn.body, exL_cons, exL_nil, exS_ite, exS_ret, exS_unp, evE_comp, evI_rg1, rv2, e3, R.noEx, l2, sq, unpV, someV, setAll, evE_or, evE_cmp, evE_var, evE_call, evE_tup, evL_cons, evL_nil, e1, cop_eq, c0, varV, List.getElem?_cons_succ, List.getElem?_cons_zero, R.bind_ok, evE_cst, evE_ix, tab0, tp_eq, boolV, if_true, Bool.false_eq_true, if_false, stE_ok, seqFl,
            List.set_cons_succ, List.set_cons_zero, e4, e5, List.length_cons, List.length_nil, two, two_is]
        rw [callF_rt (σ := [some (.ref n), some (Rule.tb rows).D, none, none, none]) F_law_speed rfl rfl rfl rfl body, P.fin_rat set_len]
end
end Lw
end Mp

set_option maxRecDepth 100000
set_option maxHeartbeats 4000000
set_option exponentiation.threshold 10000
/-! Mq13: texts of numbers and ratios; written things. -/
namespace Mp
open PySem
/-- a fold that may turn the heap, by what is left -/
theorem forE_foldHL {α β : Type} {l : List Nat} {tg kill : List Nat} {body : SL} (enc : α → D) (st : β → Sg) (hp : β → Hh) (f : β → α → β) (Inv : β → List α → Prop)
    (step : ∀ b x xs, Inv b (x :: xs) → turnK tg kill (exL l body) (enc x) (st b) (hp b) = .ok (.nx (st (f b x))) (hp (f b x)) ∧ Inv (f b x) xs) : ∀ (xs : List α) (b : β), Inv b xs → forE l tg body kill [] (xs.map enc) (st b) (hp b) = .ok (.nx (st (xs.foldl f b))) (hp (xs.foldl f b)) ∧ Inv (xs.foldl f b) []
  | [], b, i => ⟨forE_nil, i⟩
  | x :: xs, b, i => by
    obtain ⟨e, i1⟩ := step b x xs i
    rw [List.map_cons, forE_cons e]
    exact forE_foldHL enc st hp f Inv step xs _ i1
theorem foldl_push {α β : Type} (g : α → β) : ∀ (xs : List α) (b : List β), xs.foldl (fun b x => b ++ [g x]) b = b ++ xs.map g
  | [], b => by simp
  | x :: xs, b => by rw [List.foldl_cons, foldl_push g xs]; simp
/-- a loop that appends something of each item to the last object -/
theorem forE_push {α : Type} {l : List Nat} {tg kill : List Nat} {body : SL} {h : Hh} {σ : Sg} (enc : α → D) (g : α → D) {P : α → Prop} {N : Nat}
    (step : ∀ (b : List D) x, P x → b.length < N → turnK tg kill (exL l body) (enc x) σ (h ++ [.lst b]) = .ok (.nx σ) (h ++ [.lst (b ++ [g x])])) (xs : List α) (b : List D) (hx : ∀ x ∈ xs, P x) (hN : b.length + xs.length ≤ N) :
    forE l tg body kill [] (xs.map enc) σ (h ++ [.lst b]) = .ok (.nx σ) (h ++ [.lst (b ++ xs.map g)]) := by
  have := (forE_foldHL (l := l) (tg := tg) (kill := kill) (body := body) enc (fun _ : List D => σ) (fun b => h ++ [.lst b]) (fun b x => b ++ [g x]) (fun b xs => (∀ x ∈ xs, P x) ∧ b.length + xs.length ≤ N) (fun b x xs ⟨p, q⟩ => by
    simp only [List.length_cons] at q
    exact ⟨step b x (p x (by simp)) (by omega), fun y hy => p y (by simp [hy]), by simp; omega⟩) xs b ⟨hx, hN⟩).1
  rw [foldl_push] at this
  exact this
/-! ### texts -/
def numS (i : Int) : Str := Str.ofString (toString i)
def N130 (i : Int) : Prop := i.natAbs < 2 ^ 130
theorem numS_len {i : Int} (h : N130 i) : (numS i).length ≤ 131 := by
  have := int_shown h (by decide)
  unfold PyData.shown at this
  exact this
theorem numS_ok (i : Int) : PyData.strOk (numS i) = true := strOk_of _
def ratS (q : Rat) : Str := if q.den = 1 then numS q.num else numS q.num ++ Str.ofString "/" ++ numS q.den
theorem ratS_len {q : Rat} (s : Sz 130 q) : (ratS q).length ≤ 263 := by
  have a := numS_len s.1
  have b := numS_len (P.denN s)
  have c : (Str.ofString "/").length = 1 := rfl
  unfold ratS
  split
  · omega
  · rw [Str.length_append, Str.length_append]; omega
theorem ratS_ok (q : Rat) : PyData.strOk (ratS q) = true := by
  unfold ratS
  split
  · exact numS_ok _
  · exact strOk_app (strOk_app (numS_ok _) (strOk_of _)) (numS_ok _)
theorem blt_str {i : Int} (h : N130 i) (hh : Hh) : blt .str hh [.int i] = .ok (.str (numS i)) hh := by
  have : i.natAbs.log2 < 1920 := Nat.lt_of_lt_of_le (log_lt h (by decide)) (by decide)
  show (if i.natAbs.log2 < 1920 then R.ok (D.str (toString i : String)) hh else .bad) = _
  rw [if_pos this]; rfl
theorem bop_adds {x y : Str} (hl : x.length + y.length ≤ 1000000) (hh : Hh) : bop .add hh (.str x) (.str y) = .ok (.str (x ++ y)) hh := by
  have : x.length + y.length ≤ sizeLine := Nat.le_trans hl (by decide)
  simp [bop, this]
/-- laid one behind the other -/
def cat : List Str → Str
  | [] => Str.empty
  | x :: r => x ++ cat r
theorem join_cat (sep : Str) : ∀ (r : List Str) (x : Str), Str.join sep (x :: r) = x ++ cat (r.map (sep ++ ·))
  | [], x => (Str.append_empty x).symm
  | y :: r, x => by
    show x ++ sep ++ Str.join sep (y :: r) = _
    rw [join_cat sep r y]
    simp [cat, Str.append_assoc]
theorem join_none : ∀ r : List Str, Str.join (Str.ofString "") r = cat r
  | [] => rfl
  | x :: r => by
    rw [join_cat]
    congr 1
    have : ∀ r : List Str, r.map (Str.ofString "" ++ ·) = r := fun r => by
      have e : ∀ s : Str, Str.ofString "" ++ s = s := fun s => Str.empty_append s
      simp [e]
    rw [this]
theorem txt_join (sep : Str) (r : List Str) : Txt.join sep r = Str.join sep r := StrLaws.glued_eq_join sep r
theorem cat_ok : ∀ {r : List Str}, (∀ t ∈ r, PyData.strOk t = true) → PyData.strOk (cat r) = true
  | [], _ => by decide +kernel
  | x :: r, h => strOk_app (h x (by simp)) (cat_ok fun t ht => h t (by simp [ht]))
theorem cat_len {m : Nat} : ∀ {r : List Str}, (∀ t ∈ r, t.length ≤ m) → (cat r).length ≤ m * r.length
  | [], _ => Nat.zero_le _
  | x :: r, h => by
    have a := h x (by simp)
    have b := cat_len (r := r) fun t ht => h t (by simp [ht])
    show (x ++ cat r).length ≤ m * (r.length + 1)
    rw [Str.length_append, Nat.mul_add]; omega
theorem sum_len {m : Nat} : ∀ {r : List Str}, (∀ t ∈ r, t.length ≤ m) → (r.map (·.length)).sum ≤ m * r.length
  | [], _ => Nat.zero_le _
  | x :: r, h => by
    have a := h x (by simp)
    have b := sum_len (r := r) fun t ht => h t (by simp [ht])
    rw [List.map_cons, List.sum_cons, List.length_cons, Nat.mul_add]; omega
theorem strsOf_map : ∀ r : List Str, strsOf (r.map D.str) = some r
  | [] => rfl
  | x :: r => by simp [strsOf, strsOf_map r]
theorem bm_join {l : List Nat} {hh : Hh} {sep : Str} {r : List Str} {m : Nat} (h : ∀ t ∈ r, t.length ≤ m) (hm : m * r.length + r.length * sep.length ≤ 1000000) : bm .join l hh (.str sep) [.lst (r.map D.str)] = .ok (.str (Str.join sep r)) hh := by
  have := sum_len h
  have c : (r.map (·.length)).sum + r.length * sep.length ≤ 16777216 := by omega
  simp only [bm, m_join, Mp.seqOf, Mp.listOf, lstOf, Option.bind_some, strsOf_map]
  rw [if_pos c, txt_join]
/-! ### a text, shown -/
theorem char_lt (c : Char) : c.toNat < 1114112 := by
  rcases c.valid with q | q
  · have : c.toNat < 0xd800 := q
    omega
  · exact q.2
theorem sign_lt {q c : Nat} (hc : c < 1114112) : ∀ x ∈ Builtin.Str.reprChar q c, x < 1114112 := by
  have hx : ∀ (n : Nat), ∀ x ∈ List.replicate (n - ((Nat.toDigits 16 c).map Char.toNat).length) 48 ++ (Nat.toDigits 16 c).map Char.toNat, x < 1114112 := by
    intro n x hx
    rcases List.mem_append.mp hx with hx | hx
    · rw [(List.mem_replicate.mp hx).2]; decide
    · obtain ⟨d, _, rfl⟩ := List.mem_map.mp hx
      exact char_lt d
  intro x
  unfold Builtin.Str.reprChar
  simp only
  have two : ∀ {a b : Nat}, a < 1114112 → b < 1114112 → ∀ x ∈ [a, b], x < 1114112 := by
    intro a b ha hb x hx
    simp only [List.mem_cons, List.not_mem_nil, or_false] at hx
    rcases hx with rfl | rfl <;> assumption
  have app : ∀ {a b : List Nat}, (∀ x ∈ a, x < 1114112) → (∀ x ∈ b, x < 1114112) → ∀ x ∈ a ++ b, x < 1114112 := by
    intro a b ha hb x hx
    rcases List.mem_append.mp hx with hx | hx
    · exact ha x hx
    · exact hb x hx
  split
  · exact two (by decide) hc x
  · split
    · exact two (by decide) (by decide) x
    · split
      · exact two (by decide) (by decide) x
      · split
        · exact two (by decide) (by decide) x
        · split
          · intro hx; rw [List.mem_singleton.mp hx]; exact hc
          · split
            · exact app (two (by decide) (by decide)) (hx 2) x
            · split
              · exact app (two (by decide) (by decide)) (hx 4) x
              · exact app (two (by decide) (by decide)) (hx 8) x
theorem strOk_all {x : Str} : PyData.strOk x = true ↔ ∀ c ∈ x.cps.toList, c < 1114112 := by
  unfold PyData.strOk
  rw [Array.all_eq_true_iff_forall_mem]
  simp
theorem strOk_repr {x : Str} (h : PyData.strOk x = true) : PyData.strOk (reprText x) = true := by
  have h := strOk_all.mp h
  have q : reprQuote x < 1114112 := by unfold reprQuote; split <;> decide
  rw [strOk_all]
  unfold reprText
  rw [← Array.foldl_toList]
  have key : ∀ (cs : List Nat) (acc : Array Nat), (∀ c ∈ cs, c < 1114112) → (∀ c ∈ acc.toList, c < 1114112) → ∀ c ∈ (cs.foldl (fun out c => out ++ (Builtin.Str.reprChar (reprQuote x) c).toArray) acc).toList, c < 1114112 := by
    intro cs
    induction cs with
    | nil => exact fun acc _ h => h
    | cons c cs ih =>
      intro acc hc ha
      refine ih _ (fun d hd => hc d (by simp [hd])) fun d hd => ?_
      simp only [Array.toList_append, List.mem_append] at hd
      rcases hd with hd | hd
      · exact ha d hd
      · exact sign_lt (hc c (by simp)) d hd
  intro c hc
  simp only [Array.toList_push, List.mem_append, List.mem_singleton] at hc
  rcases hc with hc | rfl
  · exact key _ _ h (by intro c hc; simp only [List.mem_cons, List.not_mem_nil, or_false] at hc; rw [hc]; exact q) c hc
  · exact q
theorem Rp.str {x : Str} {n : Nat} (h : PyData.strOk x = true) (hn : x.length ≤ n) : Rp (.str x) (10 * n + 2) 0 := by
  refine ⟨rfl, ?_, by simp [PyData.depth], by unfold PyData.shown; exact strOk_repr h, by simpa [PyData.canLay0] using h⟩
  unfold PyData.shown
  have := StrLaws.reprText_len x fun c hc => Nat.lt_trans (strOk_all.mp h c hc) (by decide)
  omega
end Mp

set_option maxRecDepth 100000
set_option maxHeartbeats 1000000
set_option exponentiation.threshold 10000
/-! Mv3: plain things that can be shown. -/
namespace Mp
open PySem
namespace V
/-- things that are asked -/
structure Tg (N n d : Nat) (X : D) : Prop where
  a : Any N X
  p : ∃ P, Rp P n d ∧ ∀ hh, X.py hh = some P
  u : ∀ b, X.und b = true
theorem Tg.mono {N n d n' d' : Nat} {X : D} (t : Tg N n d X) (h1 : n ≤ n') (h2 : d ≤ d') : Tg N n' d' X := by
  obtain ⟨P, r, e⟩ := t.p
  exact ⟨t.a, ⟨P, r.mono h1 h2, e⟩, t.u⟩
theorem tg_all {N n d : Nat} : ∀ {xs : List D}, (∀ x ∈ xs, Tg N n d x) → ∃ Ps, (∀ P ∈ Ps, Rp P n d) ∧ Ps.length = xs.length ∧ ∀ hh, D.pys hh xs = some Ps
  | [], _ => ⟨[], (fun _ h => by cases h), rfl, fun _ => rfl⟩
  | x :: xs, h => by
    obtain ⟨P, r, e⟩ := (h x (by simp)).p
    obtain ⟨Ps, rs, l, es⟩ := tg_all (xs := xs) fun y hy => h y (by simp [hy])
    refine ⟨P :: Ps, fun Q hQ => ?_, by simp [l], fun hh => by simp [D.pys, e, es]⟩
    rcases List.mem_cons.mp hQ with rfl | q
    · exact r
    · exact rs Q q
theorem unds_of {N n d b : Nat} : ∀ {xs : List D}, (∀ x ∈ xs, Tg N n d x) → D.unds b xs = true
  | [], _ => rfl
  | x :: xs, h => by simp [D.unds, (h x (by simp)).u b, unds_of (xs := xs) fun y hy => h y (by simp [hy])]
theorem Tg.tup {N n d m : Nat} {xs : List D} (h : ∀ x ∈ xs, Tg N n d x) (hm : (n + 2) * xs.length + 3 ≤ m) : Tg N m (d + 1) (.tup xs) := by
  obtain ⟨Ps, r, l, e⟩ := tg_all h
  exact ⟨.tup fun x hx => (h x hx).a, ⟨.tuple Ps, Rp.tup r (by rw [l]; exact hm), fun hh => by simp [D.py, e]⟩, fun b => by rw [D.und]; exact unds_of h⟩
theorem Tg.lst {N n d m : Nat} {xs : List D} (h : ∀ x ∈ xs, Tg N n d x) (hm : (n + 2) * xs.length + 3 ≤ m) : Tg N m (d + 1) (.lst xs) := by
  obtain ⟨Ps, r, l, e⟩ := tg_all h
  exact ⟨.lst fun x hx => (h x hx).a, ⟨.list Ps, Rp.lst r (by rw [l]; exact hm), fun hh => by simp [D.py, e]⟩, fun b => by rw [D.und]; exact unds_of h⟩
theorem tg_int {N n : Nat} {i : Int} (h : i.natAbs < 2 ^ n) (h0 : 0 < n) (h1 : n ≤ N) (h2 : n ≤ 1920) : Tg N (n + 1) 0 (.int i) := ⟨.int (Nat.lt_of_lt_of_le h (Nat.pow_le_pow_right (by decide) h1)), ⟨.int i, Rp.int h h0 h2, fun _ => rfl⟩, fun b => by simp [D.und]⟩
theorem tg_non {N : Nat} : Tg N 5 0 .non := ⟨.non, ⟨.none, Rp.non, fun _ => rfl⟩, fun b => by simp [D.und]⟩
theorem tg_bl {N : Nat} (c : Bool) : Tg N 5 0 (.bl c) := ⟨.bl c, ⟨.bool c, Rp.bl c, fun _ => rfl⟩, fun b => by simp [D.und]⟩
theorem tg_str {N : Nat} (s : String) (h : (Str.ofString s).length ≤ 10) : Tg N 102 0 (.str (Str.ofString s)) := ⟨.str (strOk_of _), ⟨.str (Str.ofString s), Rp.str (strOk_of _) h, fun _ => rfl⟩, fun b => by simp [D.und]⟩
theorem tg_two {N n d : Nat} {a b : D} (ha : Tg N n d a) (hb : Tg N n d b) : ∀ x ∈ [a, b], Tg N n d x := fun x hx => by
  simp only [List.mem_cons, List.not_mem_nil, or_false] at hx
  rcases hx with rfl | rfl
  · exact ha
  · exact hb
theorem tg_rat {N n : Nat} {q : Rat} (s : Sz n q) (h0 : 0 < n) (h1 : n ≤ N) (h2 : n ≤ 1920) : Tg N (2 * n + 9) 1 (ratD q) := Tg.tup (n := n + 1) (d := 0) (tg_two (tg_int s.1 h0 h1 h2) (tg_int (by simpa using s.2) h0 h1 h2)) (by simp; omega)
theorem tg_pick {N n d : Nat} {ds : List D} {v : Int} (h0 : 0 ≤ v) (h1 : v < ds.length) (hd : ∀ x ∈ ds, Tg N n d x) : ∃ x, Tg N n d x ∧ ∀ hh, ixV hh (.lst ds) (.int v) = .ok x hh := by
  obtain ⟨j, rfl⟩ : ∃ j : Nat, v = j := ⟨v.toNat, by omega⟩
  have hj : j < ds.length := by omega
  exact ⟨ds[j], hd _ (List.getElem_mem hj), fun hh => ixV_lst (atD_nat hj)⟩
end V
end Mp

set_option maxRecDepth 100000
set_option maxHeartbeats 4000000
set_option exponentiation.threshold 10000
/-! Mq14: leans: what leads to what. -/
namespace Mp
open PySem
abbrev Edge := Nat × Nat
/-- x leads to y by one lean or more -/
inductive Lp (E : List Edge) (y : Nat) : Nat → Prop
  | one {x : Nat} : (x, y) ∈ E → Lp E y x
  | step {x z : Nat} : (x, z) ∈ E → Lp E y z → Lp E y x
theorem Lp.mono {E E' : List Edge} (h : ∀ e ∈ E, e ∈ E') {x y : Nat} (p : Lp E y x) : Lp E' y x := by
  induction p with
  | one m => exact .one (h _ m)
  | step m _ ih => exact .step (h _ m) ih
theorem Lp.trans {E : List Edge} {x y z : Nat} (p : Lp E y x) (q : Lp E z y) : Lp E z x := by
  induction p with
  | one m => exact .step m q
  | step m _ ih => exact .step m ih
theorem Lp.snoc {E : List Edge} {a b x k : Nat} : Lp (E ++ [(a, b)]) k x ↔ Lp E k x ∨ ((b = k ∨ Lp E k b) ∧ (x = a ∨ Lp E a x)) := by
  have up : ∀ {x k}, Lp E k x → Lp (E ++ [(a, b)]) k x := fun p => p.mono fun e he => List.mem_append_left _ he
  have me : (a, b) ∈ E ++ [(a, b)] := by simp
  constructor
  · intro p
    induction p with
    | one m =>
      rcases List.mem_append.mp m with m | m
      · exact .inl (.one m)
      · cases List.mem_singleton.mp m
        exact .inr ⟨.inl rfl, .inl rfl⟩
    | @step x z m _ ih =>
      rcases List.mem_append.mp m with m' | m'
      · rcases ih with ih | ⟨r, e | ih⟩
        · exact .inl (.step m' ih)
        · rw [e] at m'
          exact .inr ⟨r, .inr (.one m')⟩
        · exact .inr ⟨r, .inr (.step m' ih)⟩
      · cases List.mem_singleton.mp m'
        rcases ih with ih | ⟨r, _⟩
        · exact .inr ⟨.inr ih, .inl rfl⟩
        · exact .inr ⟨r, .inl rfl⟩
  · rintro (p | ⟨r, q⟩)
    · exact up p
    · have pb : Lp (E ++ [(a, b)]) k a := by
        rcases r with rfl | r
        · exact .one me
        · exact .step me (up r)
      rcases q with rfl | q
      · exact pb
      · exact (up q).trans pb
theorem nodup_len : ∀ (n : Nat) (F : List Nat), F.Nodup → (∀ x ∈ F, x < n) → F.length ≤ n
  | 0, F, _, h => by
    cases F with
    | nil => simp
    | cons x F => exact absurd (h x (by simp)) (by omega)
  | n + 1, F, d, h => by
    by_cases m : n ∈ F
    · have := nodup_len n (F.erase n) (d.erase n) fun x hx => by
        have := (d.mem_erase_iff).mp hx
        have := h x this.2
        omega
      rw [List.length_erase_of_mem m] at this
      omega
    · have := nodup_len n F d fun x hx => by
        have h1 := h x hx
        have : x ≠ n := fun e => m (e ▸ hx)
        omega
      omega
/-! ### numbers in lists -/
def iD (F : List Nat) : List D := F.map fun (x : Nat) => .int (x : Int)
def iP (F : List Nat) : List PyData := F.map fun (x : Nat) => .int (x : Int)
theorem pys_i (h : Hh) : ∀ F : List Nat, D.pys h (iD F) = some (iP F)
  | [] => rfl
  | x :: F => by
    have ih := pys_i h F
    unfold iD iP at ih ⊢
    simp [D.pys, D.py, ih]
theorem shp_i (F : List Nat) : SeqAt.shaped (.list (iP F)) = true := by
  have : PyData.canLayAll0 (iP F) = true ∧ PyData.depthAll (iP F) = 0 := by
    induction F with
    | nil => simp [iP, PyData.canLayAll0, PyData.depthAll]
    | cons x F ih =>
      unfold iP at ih ⊢
      simp [PyData.canLayAll0, PyData.canLay0, PyData.depthAll, PyData.depth, ih]
  simp [SeqAt.shaped, PyData.canLay0, this.1, PyData.depth, this.2]
theorem any_i (x : Nat) (F : List Nat) : ((iP F).any fun z => PyData.eqv z (.int x)) = decide (x ∈ F) := by
  induction F with
  | nil => simp [iP]
  | cons y F ih =>
    unfold iP at ih ⊢
    rw [List.map_cons, List.any_cons, ih, eqv_int]
    by_cases e : y = x
    · simp [e]
    · have : ¬ x = y := fun h => e h.symm
      have e2 : ¬ (y : Int) = (x : Int) := fun h => e (by omega)
      simp [e2, this]
theorem inn_i {h : Hh} {x : Nat} {F : List Nat} {d : D} (e : Mp.seqOf h d = some (iD F)) : cop .inn h (.int x) d = .ok (.bl (decide (x ∈ F))) h := by
  have p := pys_i h F
  have a := any_i x F
  simp only [cop, D.py, e, Option.bind_some, p, shaped_int, shp_i, Bool.and_self, if_true, a]
theorem nin_i {h : Hh} {x : Nat} {F : List Nat} {d : D} (e : Mp.seqOf h d = some (iD F)) : cop .nin h (.int x) d = .ok (.bl (!decide (x ∈ F))) h := by
  have p := pys_i h F
  have a := any_i x F
  simp only [cop, D.py, e, Option.bind_some, p, shaped_int, shp_i, Bool.and_self, if_true, a]
theorem at_i {F : List Nat} {j x : Nat} (e : F[j]? = some x) : atD (iD F) (j : Int) = some (.int x) := atD_some (by unfold iD; rw [List.getElem?_map, e]; rfl)
def edD (e : Edge) : D := .tup [.int e.1, .int e.2]
namespace P
noncomputable def F_leaned_on_b1 : SL :=
  (.cons (.ite (.and (.cmp .eq (.var 6) (.ix (.var 3) (.var 4))) (.cmp .nin (.var 5) (.var 2)))
 (.cons (.ex (.bm .append (.var 2) (.cons (.var 5) .nil)))
  (.cons (.ex (.bm .append (.var 3) (.cons (.var 5) .nil)))
  .nil))
 .nil)
  .nil)
noncomputable def F_leaned_on_b2 : SL :=
  (.cons (.for_ [5, 6] (.seq (.var 0)) F_leaned_on_b1 [5, 6])
  (.cons (.set 4 (.bop .add (.var 4) (.cst (.int 1))))
  .nil))
noncomputable def F_leaned_on : Fn := .mk 2 7 false
  (.cons (.set 2 (.alloc (.lst .nil)))
  (.cons (.set 3 (.alloc (.lst (.cons (.var 1) .nil))))
  (.cons (.set 4 (.cst (.int 0)))
  (.cons (.while_ (.cmp .lt (.var 4) (.blt .len (.cons (.var 3) .nil))) F_leaned_on_b2 [5, 6])
  (.cons (.ret (.var 2))
  .nil)))))
section
variable {l : List Nat} {h : Hh}
/-- both lists behind the heap -/
def two (h : Hh) (w : Nat) (F : List Nat) : Hh := h ++ [.lst (iD F), .lst (iD (w :: F))]
theorem two0 {w : Nat} {F : List Nat} : getL (two h w F) h.length = some (iD F) := by unfold two getL; simp
theorem two1 {w : Nat} {F : List Nat} : getL (two h w F) (h.length + 1) = some (iD (w :: F)) := by
  unfold two getL
  rw [List.getElem?_append_right (by omega)]
  simp
theorem two_push {w x : Nat} {F : List Nat} : ((two h w F).set h.length (.lst (iD F ++ [.int x]))).set (h.length + 1) (.lst (iD (w :: F) ++ [.int x])) = two h w (F ++ [x]) := by
  unfold two
  rw [List.set_append_right _ _ (Nat.le_refl _), List.set_append_right _ _ (by omega)]
  have : h.length + 1 - h.length = 1 := by omega
  rw [this]
  simp [iD]
theorem two_get1 {w x : Nat} {F : List Nat} : getL ((two h w F).set h.length (.lst (iD F ++ [.int x]))) (h.length + 1) = some (iD (w :: F)) := by
  rw [getL_set_ne (by omega)]; exact two1
theorem stI {n : Nat} {i : Int} : stOk l n (.int i) = true := stOk_int
/-- a lean's turn -/
theorem edge_ok {w a : Nat} {F : List Nat} {L : D} {y : Nat} (hy : (w :: F)[a]? = some y) (e : Edge) (hF : F.length < 1000) : turnK [5, 6] [5, 6] (exL l F_leaned_on_b1) (edD e) [some L, some (.int w), some (.ref h.length), some (.ref (h.length + 1)), some (.int a), none, none] (two h w F) =
    .ok (.nx [some L, some (.int w), some (.ref h.length), some (.ref (h.length + 1)), some (.int a), none, none]) (two h w (if e.2 = y ∧ e.1 ∉ F then F ++ [e.1] else F)) := by
  obtain ⟨x, z⟩ := e
  have i1 : ixV (two h w F) (.ref (h.length + 1)) (.int a) = .ok (.int y) (two h w F) := ixV_ref two1 (at_i hy)
  have n1 := nin_i (h := two h w F) (x := x) (d := .ref h.length) (show Mp.seqOf (two h w F) (.ref h.length) = some (iD F) by simp [Mp.seqOf, Mp.listOf, lstOf, two0])
  have ce := cop_eq (two h w F) (z : Int) (y : Int)
  have r0 := recv_ref (two0 (h := h) (w := w) (F := F))
  have a0 := app_ok (l := l) (d := .int x) (two0 (h := h) (w := w) (F := F)) stI (by simp [iD]; omega)
  have r1 := recv_ref (two_get1 (h := h) (w := w) (F := F) (x := x))
  have a1 := app_ok (l := l) (d := .int x) (two_get1 (h := h) (w := w) (F := F) (x := x)) stI (by simp [iD]; omega)
  rw [two_push] at a1
  by_cases c1 : z = y
  · have b1 : ((z : Int) == (y : Int)) = true := by simp [c1]
    by_cases c2 : x ∈ F
    · simp [turnK, F_leaned_on_b1, edD, i1, ce, b1, n1, c2]
    · rw [if_pos ⟨c1, c2⟩]
      simp [turnK, F_leaned_on_b1, edD, i1, ce, b1, n1, c2, bmTy, r0, a0, r1, a1]
  · have b1 : ((z : Int) == (y : Int)) = false := by
      have : ¬ (z : Int) = (y : Int) := fun h => c1 (by omega)
      simpa using this
    simp [turnK, F_leaned_on_b1, edD, i1, ce, b1, c1]
def grow1 (y : Nat) (F : List Nat) (e : Edge) : List Nat := if e.2 = y ∧ e.1 ∉ F then F ++ [e.1] else F
theorem grow_pre (y : Nat) : ∀ (E : List Edge) (F : List Nat), ∃ r, E.foldl (grow1 y) F = F ++ r
  | [], F => ⟨[], by simp⟩
  | e :: E, F => by
    obtain ⟨r, hr⟩ := grow_pre y E (grow1 y F e)
    rw [List.foldl_cons, hr]
    unfold grow1
    split
    · exact ⟨[e.1] ++ r, by simp⟩
    · exact ⟨r, rfl⟩
theorem grow_mem (y : Nat) : ∀ (E : List Edge) (F : List Nat) (x : Nat), x ∈ E.foldl (grow1 y) F ↔ x ∈ F ∨ (x, y) ∈ E
  | [], F, x => by simp
  | e :: E, F, x => by
    rw [List.foldl_cons, grow_mem y E]
    unfold grow1
    obtain ⟨a, b⟩ := e
    by_cases c : b = y ∧ a ∉ F
    · obtain ⟨rfl, c2⟩ := c
      rw [if_pos ⟨rfl, c2⟩]
      simp only [List.mem_append, List.mem_cons, List.not_mem_nil, or_false, Prod.mk.injEq]
      constructor
      · rintro ((h | h) | h)
        · exact .inl h
        · exact .inr (.inl ⟨h, trivial⟩)
        · exact .inr (.inr h)
      · rintro (h | h | h)
        · exact .inl (.inl h)
        · exact .inl (.inr h.1)
        · exact .inr h
    · rw [if_neg c]
      simp only [List.mem_cons, Prod.mk.injEq]
      constructor
      · rintro (h | h)
        · exact .inl h
        · exact .inr (.inr h)
      · rintro (h | ⟨rfl, rfl⟩ | h)
        · exact .inl h
        · left
          apply Classical.byContradiction
          intro q
          exact c ⟨rfl, q⟩
        · exact .inr h
theorem grow_nodup (y : Nat) : ∀ (E : List Edge) (F : List Nat), F.Nodup → (E.foldl (grow1 y) F).Nodup
  | [], F, d => d
  | e :: E, F, d => by
    rw [List.foldl_cons]
    refine grow_nodup y E _ ?_
    unfold grow1
    split
    · rename_i c
      rw [List.nodup_append]
      refine ⟨d, by simp, fun a ha b hb => ?_⟩
      rw [List.mem_singleton.mp hb]
      intro q
      exact c.2 (q ▸ ha)
    · exact d
theorem edges_ok {w a : Nat} {L : D} {y N : Nat} (hN : N < 1000) : ∀ (E : List Edge) (F : List Nat), (w :: F)[a]? = some y → F.Nodup → (∀ x ∈ F, x < N) → (∀ e ∈ E, e.1 < N) → forE l [5, 6] F_leaned_on_b1 [5, 6] [] (E.map edD) [some L, some (.int w), some (.ref h.length), some (.ref (h.length + 1)), some (.int a), none, none] (two h w F) =
    .ok (.nx [some L, some (.int w), some (.ref h.length), some (.ref (h.length + 1)), some (.int a), none, none]) (two h w (E.foldl (grow1 y) F))
  | [], F, _, _, _, _ => forE_nil
  | e :: E, F, hy, d, hF, hE => by
    have hl := nodup_len N F d hF
    rw [List.map_cons, forE_cons (edge_ok hy e (by omega)), List.foldl_cons]
    show forE l [5, 6] F_leaned_on_b1 [5, 6] [] (E.map edD) _ (two h w (grow1 y F e)) = _
    have dd := grow_nodup y [e] F d
    have mm := grow_mem y [e] F
    simp only [List.foldl_cons, List.foldl_nil] at dd mm
    obtain ⟨r, hr⟩ := grow_pre y [e] F
    simp only [List.foldl_cons, List.foldl_nil] at hr
    refine edges_ok hN E (grow1 y F e) ?_ dd (fun x hx => ?_) fun e' he' => hE e' (by simp [he'])
    · rw [hr]
      show ((w :: F) ++ r)[a]? = some y
      obtain ⟨h1, h2⟩ := List.getElem?_eq_some_iff.mp hy
      rw [List.getElem?_append_left h1, hy]
    · rcases (mm x).mp hx with hx | hx
      · exact hF x hx
      · have := List.mem_singleton.mp hx
        have := hE e (by simp)
        rename_i q
        rw [← q] at this
        exact this
/-- the walk from work on -/
theorem while_ok {w N : Nat} {E : List Edge} (hN : N < 900) (hE : ∀ e ∈ E, e.1 < N) : ∀ (k a : Nat) (F : List Nat), N + 1 - a = k → F.Nodup → (∀ x ∈ F, x < N) → (∀ x ∈ F, Lp E w x) → (∀ i y, i < a → (w :: F)[i]? = some y → ∀ x, (x, y) ∈ E → x ∈ F) → a ≤ F.length + 1 →
    ∃ F' a', ((∀ x, x ∈ F' ↔ Lp E w x) ∧ F'.length ≤ N) ∧ whileE l (.cmp .lt (.var 4) (.blt .len (.cons (.var 3) .nil))) F_leaned_on_b2 [5, 6] [some (.tup (E.map edD)), some (.int w), some (.ref h.length), some (.ref (h.length + 1)), some (.int (a : Nat)), none, none] (two h w F) =
      .ok (.nx [some (.tup (E.map edD)), some (.int w), some (.ref h.length), some (.ref (h.length + 1)), some (.int (a' : Nat)), none, none]) (two h w F') := by
  intro k
  induction k using Nat.strongRecOn with
  | ind k ih =>
    intro a F hk d hF hL hC ha
    have hl := nodup_len N F d hF
    have ln : ∀ F, blt .len (two h w F) [.ref (h.length + 1)] = .ok (.int (F.length + 1 : Nat)) (two h w F) := fun F => by
      simp only [blt, b_len, Mp.seqOf, Mp.listOf, lstOf, two1]
      simp [iD]
    by_cases c : a < F.length + 1
    · obtain ⟨y, hy⟩ : ∃ y, (w :: F)[a]? = some y := ⟨_, List.getElem?_eq_getElem (by simpa using c)⟩
      have e1 := edges_ok (l := l) (h := h) (w := w) (a := a) (L := .tup (E.map edD)) (by omega) E F hy d hF hE
      have d' := grow_nodup y E F d
      have m' := grow_mem y E F
      obtain ⟨r, hr⟩ := grow_pre y E F
      have step : (exL l F_leaned_on_b2 [some (.tup (E.map edD)), some (.int w), some (.ref h.length), some (.ref (h.length + 1)), some (.int (a : Nat)), none, none] (two h w F)).bind (killV [5, 6]) = .ok (.nx [some (.tup (E.map edD)), some (.int w), some (.ref h.length), some (.ref (h.length + 1)), some (.int ((a + 1 : Nat) : Int)), none, none]) (two h w (E.foldl (grow1 y) F)) := by
        have ad : ∀ hh, bop .add hh (.int (a : Nat)) (.int 1) = .ok (.int ((a + 1 : Nat) : Int)) hh := fun hh => by rw [bop_add]; simp
        generalize E.map edD = ED at *
        generalize E.foldl (grow1 y) F = F' at *
        simp only [F_leaned_on_b2, exL_cons, exL_nil, exS_for, exS_set, evI_seq, evE_var, varV, List.getElem?_cons_zero, List.getElem?_cons_succ, R.bind_ok, srcOf_tup, someV, stE_ok, killAll, List.set_cons_zero, List.set_cons_succ, e1, seqFl, evE_bop, evE_cst, ad, killV]
      have cnd : evE l (.cmp .lt (.var 4) (.blt .len (.cons (.var 3) .nil))) [some (.tup (E.map edD)), some (.int w), some (.ref h.length), some (.ref (h.length + 1)), some (.int (a : Nat)), none, none] (two h w F) = .ok (.bl true) (two h w F) := by
        have lt : decide ((a : Int) < ((F.length + 1 : Nat) : Int)) = true := decide_eq_true (by omega)
        have ln1 := ln F
        generalize E.map edD = ED at *
        simp only [evE_cmp, evE_var, varV, List.getElem?_cons_zero, List.getElem?_cons_succ, R.bind_ok, evE_blt, evL_cons, evL_nil, ln1, cop_lt, lt]
      obtain ⟨F', a', hF', e'⟩ := ih (N + 1 - (a + 1)) (by omega) (a + 1) (E.foldl (grow1 y) F) rfl d' (fun x hx => by
        rcases (m' x).mp hx with hx | hx
        · exact hF x hx
        · exact hE _ hx) (fun x hx => by
        rcases (m' x).mp hx with hx | hx
        · exact hL x hx
        · cases a with
          | zero =>
            have : w = y := by simpa using hy
            subst this
            exact .one hx
          | succ a =>
            have : y ∈ F := by
              have : F[a]? = some y := by simpa using hy
              exact List.mem_of_getElem? this
            exact .step hx (hL y this)) (fun i z hi hz x hx => by
        rw [hr] at hz
        rcases Nat.lt_or_eq_of_le (show i ≤ a by omega) with q | q
        · have : (w :: F)[i]? = some z := by
            have e : (w :: (F ++ r)) = (w :: F) ++ r := rfl
            rw [e, List.getElem?_append_left (by simp; omega)] at hz
            exact hz
          exact (m' x).mpr (.inl (hC i z q this x hx))
        · subst q
          have : (w :: F)[i]? = some z := by
            have e : (w :: (F ++ r)) = (w :: F) ++ r := rfl
            rw [e, List.getElem?_append_left (by simpa using c)] at hz
            exact hz
          rw [this] at hy
          cases hy
          exact (m' x).mpr (.inr hx)) (by rw [hr]; simp; omega)
      exact ⟨F', a', hF', by rw [whileE_step cnd step, e']⟩
    · refine ⟨F, a, ⟨fun x => ⟨hL x, fun p => ?_⟩, hl⟩, ?_⟩
      · have cl : ∀ y, y = w ∨ y ∈ F → ∀ x, (x, y) ∈ E → x ∈ F := by
          intro y hy x hx
          rcases hy with rfl | hy
          · exact hC 0 y (by omega) rfl x hx
          · obtain ⟨j, hj⟩ := List.getElem?_of_mem hy
            have hlt := (List.getElem?_eq_some_iff.mp hj).1
            exact hC (j + 1) y (by omega) (by simpa using hj) x hx
        induction p with
        | one m => exact cl w (.inl rfl) _ m
        | step m _ ih => exact cl _ (.inr ih) _ m
      · refine whileE_stop ?_
        have lt : decide ((a : Int) < ((F.length + 1 : Nat) : Int)) = false := decide_eq_false (by omega)
        have ln1 := ln F
        generalize E.map edD = ED at *
        simp only [evE_cmp, evE_var, varV, List.getElem?_cons_zero, List.getElem?_cons_succ, R.bind_ok, evE_blt, evL_cons, evL_nil, ln1, cop_lt, lt]
theorem unds_i (b : Nat) : ∀ F : List Nat, D.unds b (iD F) = true
  | [] => rfl
  | x :: F => by
    have ih := unds_i b F
    unfold iD at ih ⊢
    simp [D.unds, D.und, ih]
theorem leaned_len {w N : Nat} {E : List Edge} (hN : N < 900) (hE : ∀ e ∈ E, e.1 < N) : ∃ F, ((∀ x, x ∈ F ↔ Lp E w x) ∧ F.length ≤ N) ∧ callF l F_leaned_on [.tup (E.map edD), .int w] h = .ok (.lst (iD F)) h := by
  obtain ⟨F, a, hF, e⟩ := while_ok (l := h.length :: l) (h := h) (w := w) hN hE (N + 1 - 0) 0 [] rfl (by simp) (by simp) (by simp) (by intro i y hi; omega) (by simp)
  refine ⟨F, hF, ?_⟩
  have zz : 0 ≤ sizeLine := Nat.zero_le _
  have one : 1 ≤ sizeLine := by decide
  have t0 : two h w [] = h ++ [.lst []] ++ [.lst [.int w]] := by unfold two iD; simp
  have len1 : (h ++ [Ob.lst []]).length = h.length + 1 := by simp
  rw [t0] at e
  have g0 := two0 (h := h) (w := w) (F := F)
  have u := unds_i h.length F
  have tk : List.take h.length (two h w F) = h := by
    unfold two
    rw [List.take_append_of_le_length (Nat.le_refl _), List.take_of_length_le (Nat.le_refl _)]
  generalize E.map edD = ED at *
  have body : exL (h.length :: l) (Fn.body F_leaned_on) [some (.tup ED), some (.int w), none, none, none, none, none] h = .ok (.rt (.ref h.length)) (two h w F) := by
    simp only [F_leaned_on, Fn.body, exL_cons, exL_nil, exS_set, exS_while, exS_ret, evE_alloc, evE_lst, evL_nil, evL_cons, evE_var, evE_cst, varV, List.getElem?_cons_zero, List.getElem?_cons_succ, List.length_nil, List.length_cons, zz, one, if_true, R.bind_ok, allocV, stE_ok, List.set_cons_zero, List.set_cons_succ, seqFl, len1, killAll]
    have z0 : D.int ((0 : Nat) : Int) = D.int 0 := rfl
    rw [z0] at e
    simp only [e, R.bind_ok, seqFl, stE_ok, List.getElem?_cons_zero, List.getElem?_cons_succ]
  rw [callF_rt (σ := [some (.tup ED), some (.int w), none, none, none, none, none]) F_leaned_on rfl rfl rfl rfl body]
  simp [fin, D.und, g0, u, tk]
theorem leaned_ok {w N : Nat} {E : List Edge} (hN : N < 900) (hE : ∀ e ∈ E, e.1 < N) : ∃ F, (∀ x, x ∈ F ↔ Lp E w x) ∧ callF l F_leaned_on [.tup (E.map edD), .int w] h = .ok (.lst (iD F)) h := by
  obtain ⟨F, a, b⟩ := leaned_len (l := l) (h := h) (w := w) hN hE
  exact ⟨F, a.1, b⟩
end
end P
end Mp

set_option maxRecDepth 100000
set_option maxHeartbeats 4000000
set_option exponentiation.threshold 10000
/-! Mq15: drawing into a list, one of several. -/
namespace Mp
open PySem
theorem all_enc {α : Type} {enc : α → D} {P : α → Prop} : ∀ {ys : List D}, (∀ y ∈ ys, ∃ v, y = enc v ∧ P v) → ∃ vs : List α, ys = vs.map enc ∧ ∀ v ∈ vs, P v
  | [], _ => ⟨[], rfl, by simp⟩
  | y :: ys, h => by
    obtain ⟨v, rfl, p⟩ := h y (by simp)
    obtain ⟨vs, rfl, q⟩ := all_enc (ys := ys) fun z hz => h z (by simp [hz])
    exact ⟨v :: vs, rfl, fun w hw => by
      rcases List.mem_cons.mp hw with rfl | hw
      · exact p
      · exact q w hw⟩
theorem draw_push {l : List Nat} {tg kill : List Nat} {body : SL} {h : Hh} {n c : Nat} {σ : Sg} {P : D → Prop} (step : ∀ d k ds b, IsTape (h.set n (.lst ds) ++ [.lst b]) n k → k + c < 2 ^ 40 → b.length < 1000 → ∃ x ds', P x ∧ turnK tg kill (exL l body) d σ (h.set n (.lst ds) ++ [.lst b]) = .ok (.nx σ) (h.set n (.lst ds') ++ [.lst (b ++ [x])]) ∧ IsTape (h.set n (.lst ds') ++ [.lst (b ++ [x])]) n (k + c)) :
    ∀ (xs : List D) (k : Nat) (ds b : List D), IsTape (h.set n (.lst ds) ++ [.lst b]) n k → k + c * xs.length < 2 ^ 40 → b.length + xs.length ≤ 1000 → ∃ ys ds', forE l tg body kill [] xs σ (h.set n (.lst ds) ++ [.lst b]) = .ok (.nx σ) (h.set n (.lst ds') ++ [.lst (b ++ ys)]) ∧ ys.length = xs.length ∧ (∀ y ∈ ys, P y) ∧ IsTape (h.set n (.lst ds') ++ [.lst (b ++ ys)]) n (k + c * xs.length)
  | [], k, ds, b, t, _, _ => ⟨[], ds, by simpa using forE_nil, rfl, by simp, by simpa using t⟩
  | d :: xs, k, ds, b, t, hk, hb => by
    rw [List.length_cons, Nat.mul_add] at hk
    rw [List.length_cons] at hb
    obtain ⟨x, d1, p1, e1, t1⟩ := step d k ds b t (by omega) (by omega)
    obtain ⟨ys, d2, e2, l2, p2, t2⟩ := draw_push step xs _ d1 _ t1 (by omega) (by simp; omega)
    refine ⟨x :: ys, d2, by rw [forE_cons e1, e2]; simp, by simp [l2], fun y hy => ?_, ?_⟩
    · rcases List.mem_cons.mp hy with rfl | hy
      · exact p1
      · exact p2 y hy
    · rw [List.length_cons, Nat.mul_add]
      have : b ++ x :: ys = b ++ [x] ++ ys := by simp
      rw [this]
      exact t2.mono (by omega)
section
variable {l : List Nat} {h : Hh}
theorem stOk_und {n : Nat} {d : D} (u : ∀ b, d.und b = true) : stOk l n d = true := by
  unfold stOk
  rw [List.all_eq_true]
  intro b _
  rw [u b]; simp
theorem unds_map {α : Type} {enc : α → D} (b : Nat) (u : ∀ x, (enc x).und b = true) : ∀ xs : List α, D.unds b (xs.map enc) = true
  | [] => rfl
  | x :: xs => by simp [D.unds, u x, unds_map b u xs]
theorem st_app {n : Nat} (hn : n < h.length) (a b : List D) (o : Ob) : (h.set n (.lst a) ++ [o]).set n (.lst b) = h.set n (.lst b) ++ [o] := by rw [set_left (by simpa using hn), List.set_set]
theorem push_last {n : Nat} {ds b : List D} {d : D} (u : ∀ b, d.und b = true) (hb : b.length < 1000) : bm .append l (h.set n (.lst ds) ++ [.lst b]) (.ref h.length) [d] = .ok .non (h.set n (.lst ds) ++ [.lst (b ++ [d])]) := by
  rw [app_ok (getL_last set_len) (stOk_und u) (by omega), set_last set_len]
theorem rcv_last {n : Nat} {ds b : List D} : recv "list" (h.set n (.lst ds) ++ [.lst b]) (.ref h.length) = true := recv_ref (getL_last set_len)
theorem tape_swap {n k : Nat} {ds b b' : List D} (hn : n < h.length) (t : IsTape (h.set n (.lst ds) ++ [.lst b]) n k) : IsTape (h.set n (.lst ds) ++ [.lst b']) n k := (t.left (by simpa using hn)).app
theorem one_of {n k : Nat} (t : IsTape h n k) (hk : k < 2 ^ 40) {α : Type} (enc : α → D) (xs : List α) {m : Int} (hl : (xs.length : Int) = m) (h0 : 0 < m) (h1 : m < 100000) : ∃ (w : α) (v : Int) (d1 : List D), w ∈ xs ∧ callF l F_law_draw [.ref n, .int m] h = .ok (.int v) (h.set n (.lst d1)) ∧ (∀ hh, ixV hh (.lst (xs.map enc)) (.int v) = .ok (enc w) hh) ∧ (∀ hh, ixV hh (.tup (xs.map enc)) (.int v) = .ok (enc w) hh) ∧ IsTape (h.set n (.lst d1)) n (k + 1) := by
  obtain ⟨v, d1, a1, b1, e1, t1⟩ := draw_ok (l := l) t hk (m := m) h0 (by omega)
  obtain ⟨j, rfl⟩ : ∃ j : Nat, v = j := ⟨v.toNat, by omega⟩
  have hj : j < xs.length := by omega
  have ax : atD (xs.map enc) (j : Int) = some (enc xs[j]) := by
    rw [atD_nat (by rw [List.length_map]; exact hj), List.getElem_map]
  exact ⟨xs[j], j, d1, List.getElem_mem hj, e1, fun hh => ixV_lst ax, fun hh => ixV_tup ax, t1⟩
theorem pick_ok {n k : Nat} (t : IsTape h n k) (hk : k + 3 < 2 ^ 40) (xs : List Int) {m : Int} (hl : (xs.length : Int) = m) (h0 : 0 < m) (h1 : m < 100000) (hx : ∀ x ∈ xs, 0 < x ∧ x < 2 ^ 60) : ∃ (w v : Int) (c : Nat) (d1 d2 : List D), w ∈ xs ∧ (c : Int) < w ∧ callF l F_law_draw [.ref n, .int m] h = .ok (.int v) (h.set n (.lst d1)) ∧ (∀ hh, ixV hh (.lst (xs.map D.int)) (.int v) = .ok (.int w) hh) ∧
    callF l F_law_draw [.ref n, .int w] (h.set n (.lst d1)) = .ok (.int c) (h.set n (.lst d2)) ∧ IsTape (h.set n (.lst d2)) n (k + 2) := by
  obtain ⟨w, v, d1, hw, e1, i1, _, t1⟩ := one_of (l := l) t (by omega) D.int xs hl h0 h1
  obtain ⟨w0, w1⟩ := hx w hw
  obtain ⟨u, d2, a2, b2, e2, t2⟩ := draw_ok (l := l) t1 (by omega) (m := w) w0 (by omega)
  rw [List.set_set] at e2 t2
  obtain ⟨c, rfl⟩ : ∃ c : Nat, u = c := ⟨u.toNat, by omega⟩
  exact ⟨w, v, c, d1, d2, hw, b2, e1, i1, e2, t2⟩
end
end Mp

set_option maxRecDepth 100000
set_option maxHeartbeats 4000000
set_option exponentiation.threshold 10000
/-! Mq16: drawn works with windows; leans by a drawn order. -/
namespace Mp
open PySem
theorem rp_map {α : Type} {enc : α → PyData} {P : α → Prop} {n d : Nat} (r : ∀ x, P x → Rp (enc x) n d) {xs : List α} (h : ∀ x ∈ xs, P x) : ∀ y ∈ xs.map enc, Rp y n d := by
  intro y hy
  obtain ⟨x, hx, rfl⟩ := List.mem_map.mp hy
  exact r x (h x hx)
theorem py_map {α : Type} {enc : α → D} {encP : α → PyData} (hh : Hh) (e : ∀ x, (enc x).py hh = some (encP x)) : ∀ xs : List α, D.pys hh (xs.map enc) = some (xs.map encP)
  | [] => rfl
  | x :: xs => by simp [D.pys, e x, py_map hh e xs]
theorem flats_map {α : Type} {enc : α → D} {encP : α → PyData} (e : ∀ x, (enc x).flat = some (encP x)) : ∀ xs : List α, D.flats (xs.map enc) = some (xs.map encP)
  | [] => rfl
  | x :: xs => by simp [D.flats, e x, flats_map e xs]
theorem rp2 {a b : PyData} {n d : Nat} (ha : Rp a n d) (hb : Rp b n d) : ∀ x ∈ [a, b], Rp x n d := by
  intro x hx
  simp only [List.mem_cons, List.not_mem_nil, or_false] at hx
  rcases hx with rfl | rfl <;> assumption
theorem rp3 {a b c : PyData} {n d : Nat} (ha : Rp a n d) (hb : Rp b n d) (hc : Rp c n d) : ∀ x ∈ [a, b, c], Rp x n d := by
  intro x hx
  simp only [List.mem_cons, List.not_mem_nil, or_false] at hx
  rcases hx with rfl | rfl | rfl <;> assumption
/-- a list of ours and the empty one -/
theorem ne_nil {hh : Hh} {d : D} {xs : List PyData} {n : Nat} (e : d.py hh = some (.list xs)) (r : Rp (.list xs) n 60) : cop .ne hh d (.lst []) = .ok (.bl (!xs.isEmpty)) hh := by
  have s1 := r.shaped
  have s2 : SeqAt.shaped (.list []) = true := shp_lrats []
  have e2 : (D.lst []).py hh = some (.list []) := py_lrats hh []
  cases xs with
  | nil => simp [cop, e, e2, s2, PyData.eqv, PyData.eqvAll]
  | cons x xs => simp [cop, e, e2, s1, s2, PyData.eqv, PyData.eqvAll]
/-! windows -/
abbrev Win := Nat × Nat × Rat
def winD (w : Win) : D := .tup [.int (w.1 : Int), .int (w.2.1 : Int), ratD w.2.2]
def winP (w : Win) : PyData := .tuple [.int (w.1 : Int), .int (w.2.1 : Int), ratP w.2.2]
structure WinOk (e : Nat) (w : Win) : Prop where
  le : w.1 ≤ w.2.1
  lt : w.2.1 < e
  pt : Pt w.2.2
theorem und_win (b : Nat) (w : Win) : (winD w).und b = true := by simp [winD, D.und, D.unds, und_rat]
theorem py_win (hh : Hh) (w : Win) : (winD w).py hh = some (winP w) := by simp [winD, winP, D.py, D.pys, py_rat]
theorem flat_win (w : Win) : (winD w).flat = some (winP w) := by simp [winD, winP, D.flat, D.flats, flat_rat]
theorem rp_win {w : Win} (h1 : w.1 < 100) (h2 : w.2.1 < 100) (s : Sz 71 w.2.2) : Rp (winP w) 600 2 := by
  have i1 : ∀ n : Nat, n < 100 → Rp (.int (n : Int)) 151 1 := fun n hn => (Rp.int (n := 7) (by simpa using Nat.lt_trans hn (by decide)) (by decide) (by decide)).mono (by decide) (by decide)
  exact (Rp.tup (rp3 (i1 _ h1) (i1 _ h2) (Rp.rat s (by decide) (by decide))) (Nat.le_refl _)).mono (by simp) (by decide)
theorem rp_wins {ws : List Win} {e : Nat} (he : e ≤ 100) (hw : ∀ w ∈ ws, WinOk e w) (hl : ws.length ≤ 1000) : Rp (.list (ws.map winP)) 700000 3 := by
  refine Rp.lst (rp_map (P := WinOk e) (fun w hw => rp_win (by have := hw.le; have := hw.lt; omega) (by have := hw.lt; omega) hw.pt.sz) hw) ?_
  rw [List.length_map]; omega
theorem rp_winsT {ws : List Win} {e : Nat} (he : e ≤ 100) (hw : ∀ w ∈ ws, WinOk e w) (hl : ws.length ≤ 1000) : Rp (.tuple (ws.map winP)) 700000 3 := by
  refine Rp.tup (rp_map (P := WinOk e) (fun w hw => rp_win (by have := hw.le; have := hw.lt; omega) (by have := hw.lt; omega) hw.pt.sz) hw) ?_
  rw [List.length_map]; omega
/-- a draw_push whose turns know what lies there -/
theorem draw_pushP {l : List Nat} {tg kill : List Nat} {body : SL} {h : Hh} {n c : Nat} {σ : Sg} {α : Type} {enc : α → D} {P : α → Prop} (step : ∀ d k ds (b : List α), (∀ y ∈ b, P y) → IsTape (h.set n (.lst ds) ++ [.lst (b.map enc)]) n k → k + c < 2 ^ 40 → b.length < 1000 → ∃ x ds', P x ∧ turnK tg kill (exL l body) d σ (h.set n (.lst ds) ++ [.lst (b.map enc)]) = .ok (.nx σ) (h.set n (.lst ds') ++ [.lst (b.map enc ++ [enc x])]) ∧ IsTape (h.set n (.lst ds') ++ [.lst (b.map enc ++ [enc x])]) n (k + c)) :
    ∀ (xs : List D) (k : Nat) (ds : List D) (b : List α), (∀ y ∈ b, P y) → IsTape (h.set n (.lst ds) ++ [.lst (b.map enc)]) n k → k + c * xs.length < 2 ^ 40 → b.length + xs.length ≤ 1000 → ∃ (ys : List α) (ds' : List D), forE l tg body kill [] xs σ (h.set n (.lst ds) ++ [.lst (b.map enc)]) = .ok (.nx σ) (h.set n (.lst ds') ++ [.lst (ys.map enc)]) ∧ ys.length = b.length + xs.length ∧ (∀ y ∈ ys, P y) ∧ IsTape (h.set n (.lst ds') ++ [.lst (ys.map enc)]) n (k + c * xs.length)
  | [], k, ds, b, hb, t, _, _ => ⟨b, ds, forE_nil, rfl, hb, by simpa using t⟩
  | d :: xs, k, ds, b, pb, t, hk, hb => by
    rw [List.length_cons, Nat.mul_add] at hk
    rw [List.length_cons] at hb
    obtain ⟨x, d1, p1, e1, t1⟩ := step d k ds b pb t (by omega) (by omega)
    have ea : b.map enc ++ [enc x] = (b ++ [x]).map enc := by simp
    rw [ea] at e1 t1
    obtain ⟨ys, d2, e2, l2, p2, t2⟩ := draw_pushP step xs _ d1 (b ++ [x]) (fun y hy => by
      rcases List.mem_append.mp hy with hy | hy
      · exact pb y hy
      · rw [List.mem_singleton.mp hy]; exact p1) t1 (by omega) (by simp; omega)
    refine ⟨ys, d2, by rw [forE_cons e1, e2], by rw [l2]; simp; omega, p2, ?_⟩
    rw [List.length_cons, Nat.mul_add]
    exact t2.mono (by omega)
noncomputable def works_tail : SL :=
  (.cons (.ite (.cmp .eq (.call "_law_draw" F_law_draw (.cons (.var 0) (.cons (.cst (.int 6)) .nil))) (.cst (.int 0)))
 (.cons (.set 6 (.var 5))
  .nil)
 .nil)
  (.cons (.ex (.bm .append (.var 3) (.cons (.tup (.cons (.var 5) (.cons (.var 6) (.cons (.call "_law_part" Lw.F_law_part (.cons (.var 0) .nil)) .nil)))) .nil)))
  .nil))
noncomputable def F_law_works_b1 : SL :=
  (.cons (.set 5 (.call "_law_draw" F_law_draw (.cons (.var 0) (.cons (.var 2) .nil))))
  (.cons (.set 6 (.bop .add (.var 5) (.call "_law_draw" F_law_draw (.cons (.var 0) (.cons (.bop .sub (.var 2) (.var 5)) .nil)))))
  (.cons (.ite (.and (.cmp .ne (.var 3) (.lst .nil)) (.cmp .eq (.call "_law_draw" F_law_draw (.cons (.var 0) (.cons (.cst (.int 5)) .nil))) (.cst (.int 0))))
 (.cons (.unp [5, 6] (.sl (.ix (.var 3) (.call "_law_draw" F_law_draw (.cons (.var 0) (.cons (.blt .len (.cons (.var 3) .nil)) .nil)))) .no (.cst (.int 2))))
  .nil)
 .nil)
  works_tail)))
noncomputable def F_law_works : Fn := .mk 3 7 false
  (.cons (.set 3 (.alloc (.lst .nil)))
  (.cons (.for_ [4] (.rg1 (.call "_law_draw" F_law_draw (.cons (.var 0) (.cons (.bop .add (.var 1) (.cst (.int 1))) .nil)))) F_law_works_b1 [4, 5, 6])
  (.cons (.ret (.blt .tuple (.cons (.var 3) .nil)))
  .nil)))
section
variable {l : List Nat} {h : Hh}
theorem works_turn {n k e : Nat} {s1 : Option D} {x : D} {ds : List D} {b : List Win} (he : 0 < e) (he' : e ≤ 100) (hn : n < h.length) (pb : ∀ y ∈ b, WinOk e y) (t : IsTape (h.set n (.lst ds) ++ [.lst (b.map winD)]) n k) (hk : k + 12 < 2 ^ 40) (hb : b.length < 1000) :
    ∃ y ds', WinOk e y ∧ turnK [4] [4, 5, 6] (exL l F_law_works_b1) x [some (.ref n), s1, some (.int (e : Int)), some (.ref h.length), none, none, none] (h.set n (.lst ds) ++ [.lst (b.map winD)]) =
      .ok (.nx [some (.ref n), s1, some (.int (e : Int)), some (.ref h.length), none, none, none]) (h.set n (.lst ds') ++ [.lst (b.map winD ++ [winD y])]) ∧ IsTape (h.set n (.lst ds') ++ [.lst (b.map winD ++ [winD y])]) n (k + 12) := by
  obtain ⟨u, c1, u0, u1, e1, t1⟩ := draw_ok (l := l) t (by omega) (m := e) (by omega) (by omega)
  rw [st_app hn] at e1 t1
  obtain ⟨A, rfl⟩ : ∃ A : Nat, u = A := ⟨u.toNat, by omega⟩
  obtain ⟨v, c2, v0, v1, e2, t2⟩ := draw_ok (l := l) t1 (by omega) (m := (e : Int) - A) (by omega) (by omega)
  rw [st_app hn] at e2 t2
  obtain ⟨B, hB⟩ : ∃ B : Nat, (A : Int) + v = B := ⟨(A + v).toNat, by omega⟩
  have rc := fun ds => rcv_last (h := h) (n := n) (ds := ds) (b := b.map winD)
  have bl : (b.map winD).length < 1000 := by rw [List.length_map]; exact hb
  have three : 3 ≤ sizeLine := by decide
  have zz : 0 ≤ sizeLine := Nat.zero_le _
  have nn : ∀ c, cop .ne (h.set n (.lst c) ++ [.lst (b.map winD)]) (.ref h.length) (.lst []) = .ok (.bl (!b.isEmpty)) (h.set n (.lst c) ++ [.lst (b.map winD)]) := fun c => by
    have := ne_nil (hh := h.set n (.lst c) ++ [.lst (b.map winD)]) (d := .ref h.length) (xs := b.map winP) (by
      simp [D.py, getL_last (h := h.set n (.lst c)) set_len, flats_map flat_win]) ((rp_wins he' pb (by omega)).mono (Nat.le_refl _) (by decide))
    rw [this]
    cases b <;> rfl
  -- the window that is taken
  suffices H : ∀ (a c : Nat) (c4 : List D) (k4 : Nat), a ≤ c → c < e → IsTape (h.set n (.lst c4) ++ [.lst (b.map winD)]) n k4 → k4 + 6 ≤ k + 12 → ∃ y ds', WinOk e y ∧ exL l works_tail [some (.ref n), s1, some (.int (e : Int)), some (.ref h.length), some x, some (.int (a : Int)), some (.int (c : Int))] (h.set n (.lst c4) ++ [.lst (b.map winD)]) =
      .ok (.nx [some (.ref n), s1, some (.int (e : Int)), some (.ref h.length), some x, some (.int (y.1 : Int)), some (.int (y.2.1 : Int))]) (h.set n (.lst ds') ++ [.lst (b.map winD ++ [winD y])]) ∧ IsTape (h.set n (.lst ds') ++ [.lst (b.map winD ++ [winD y])]) n (k + 12) by
    by_cases hbe : b = []
    · obtain ⟨y, ds', oy, ey, ty⟩ := H A B c2 _ (by omega) (by omega) t2 (by omega)
      refine ⟨y, ds', oy, ?_, ty⟩
      have nn' : ∀ c, cop .ne (h.set n (.lst c) ++ [.lst (b.map winD)]) (.ref h.length) (.lst []) = .ok (.bl false) (h.set n (.lst c) ++ [.lst (b.map winD)]) := fun c => by rw [nn]; subst hbe; rfl
      generalize b.map winD = BB at *
      simp only [turnK, F_law_works_b1, bindT, target, List.set_cons_succ, List.set_cons_zero, exL_cons, exS_set, exS_ite, evE_call, evL_cons, evL_nil, evE_var, varV, List.getElem?_cons_zero, List.getElem?_cons_succ, R.bind_ok, e1, stE_ok, seqFl, evE_bop, bop_sub, e2, bop_add, hB, evE_and, evE_cmp, evE_lst, List.length_nil, zz, if_true, nn', boolV, Bool.false_eq_true, if_false, exL_nil]
      rw [ey]
      rfl
    · have nn' : ∀ c, cop .ne (h.set n (.lst c) ++ [.lst (b.map winD)]) (.ref h.length) (.lst []) = .ok (.bl true) (h.set n (.lst c) ++ [.lst (b.map winD)]) := fun c => by
        rw [nn]
        cases b with
        | nil => exact absurd rfl hbe
        | cons => rfl
      obtain ⟨w, c3, w0, w1, e3, t3⟩ := draw_ok (l := l) t2 (by omega) (m := 5) (by decide) (by decide)
      rw [st_app hn] at e3 t3
      by_cases cw : w = 0
      · subst cw
        have lb : 0 < b.length := List.length_pos_iff.mpr hbe
        obtain ⟨q, c4, q0, q1, e4, t4⟩ := draw_ok (l := l) t3 (by omega) (m := b.length) (by omega) (by omega)
        rw [st_app hn] at e4 t4
        obtain ⟨j, rfl⟩ : ∃ j : Nat, q = j := ⟨q.toNat, by omega⟩
        have hj : j < b.length := by omega
        have oj := pb b[j] (List.getElem_mem hj)
        obtain ⟨y, ds', oy, ey, ty⟩ := H b[j].1 b[j].2.1 c4 _ oj.le oj.lt t4 (by omega)
        refine ⟨y, ds', oy, ?_, ty⟩
        have gl := fun c => getL_last (h := h.set n (.lst c)) (n := h.length) (ds := b.map winD) set_len
        have ix : ∀ c, ixV (h.set n (.lst c) ++ [.lst (b.map winD)]) (.ref h.length) (.int (j : Int)) = .ok (winD b[j]) (h.set n (.lst c) ++ [.lst (b.map winD)]) := fun c => by
          refine ixV_ref (gl c) ?_
          rw [atD_nat (by rw [List.length_map]; exact hj), List.getElem_map]
        have sl : ∀ hh, slV hh (winD b[j]) none (some 2) = .ok (.tup [.int (b[j].1 : Int), .int (b[j].2.1 : Int)]) hh := fun hh => rfl
        have ln : ∀ c, blt .len (h.set n (.lst c) ++ [.lst (b.map winD)]) [.ref h.length] = .ok (.int b.length) (h.set n (.lst c) ++ [.lst (b.map winD)]) := fun c => by
          simp [blt, b_len, Mp.seqOf, Mp.listOf, lstOf, gl]
        generalize winD b[j] = WJ at *
        have un : ∀ hh, unpV [5, 6] [some (.ref n), s1, some (.int (e : Int)), some (.ref h.length), some x, some (.int (A : Int)), some (.int (B : Int))] hh (.tup [.int (b[j].1 : Int), .int (b[j].2.1 : Int)]) = .ok [some (.ref n), s1, some (.int (e : Int)), some (.ref h.length), some x, some (.int (b[j].1 : Int)), some (.int (b[j].2.1 : Int))] hh := fun hh => rfl
        generalize b.map winD = BB at *
        generalize b[j].1 = y1 at *
        generalize b[j].2.1 = y2 at *
        have l2 : 2 ≤ sizeLine := by decide
        have z5 : ((0 : Int) == 0) = true := rfl
        simp only [turnK, F_law_works_b1, bindT, target, List.set_cons_succ, List.set_cons_zero, exL_cons, exS_set, exS_ite, exS_unp, evE_call, evL_cons, evL_nil, evE_var, varV, List.getElem?_cons_zero, List.getElem?_cons_succ, R.bind_ok, e1, stE_ok, seqFl, evE_bop, bop_sub, e2, bop_add, hB, evE_and, evE_cmp, evE_lst, List.length_nil, zz, if_true, nn', boolV, evE_cst, e3, cop_eq, z5, evE_sl, evE_ix, evE_blt, ln, e4, ix, evE_no, isNo, optV, sl, un, exL_nil]
        rw [ey]
        rfl
      · obtain ⟨y, ds', oy, ey, ty⟩ := H A B c3 _ (by omega) (by omega) t3 (by omega)
        refine ⟨y, ds', oy, ?_, ty⟩
        have z5 : (w == 0) = false := by simpa using cw
        generalize b.map winD = BB at *
        simp only [turnK, F_law_works_b1, bindT, target, List.set_cons_succ, List.set_cons_zero, exL_cons, exS_set, exS_ite, evE_call, evL_cons, evL_nil, evE_var, varV, List.getElem?_cons_zero, List.getElem?_cons_succ, R.bind_ok, e1, stE_ok, seqFl, evE_bop, bop_sub, e2, bop_add, hB, evE_and, evE_cmp, evE_lst, List.length_nil, zz, if_true, nn', boolV, evE_cst, e3, cop_eq, z5, Bool.false_eq_true, if_false, exL_nil]
        rw [ey]
        rfl
  intro a c c4 k4 hac hce t4 hk4
  obtain ⟨w, c5, w0, w1, e5, t5⟩ := draw_ok (l := l) t4 (by omega) (m := 6) (by decide) (by decide)
  rw [st_app hn] at e5 t5
  obtain ⟨q, c6, pq, e6, t6⟩ := Lw.part_ok (l := l) t5 (by omega)
  rw [st_app hn] at e6 t6
  by_cases cw : w = 0
  · have z5 : (w == 0) = true := by simpa using cw
    have pu := push_last (l := l) (h := h) (n := n) (ds := c6) (d := winD (a, a, q)) (und_win · _) bl
    have wd : D.tup [.int (a : Int), .int (a : Int), ratD q] = winD (a, a, q) := rfl
    refine ⟨(a, a, q), c6, ⟨Nat.le_refl _, by simp only; omega, pq⟩, ?_, (tape_swap hn t6).mono (by omega)⟩
    generalize winD (a, a, q) = W at *
    generalize b.map winD = BB at *
    simp [works_tail, e5, cop_eq, z5, bmTy, rc, e6, three, wd, pu]
  · have z5 : (w == 0) = false := by simpa using cw
    have pu := push_last (l := l) (h := h) (n := n) (ds := c6) (d := winD (a, c, q)) (und_win · _) bl
    have wd : D.tup [.int (a : Int), .int (c : Int), ratD q] = winD (a, c, q) := rfl
    refine ⟨(a, c, q), c6, ⟨hac, hce, pq⟩, ?_, (tape_swap hn t6).mono (by omega)⟩
    generalize winD (a, c, q) = W at *
    generalize b.map winD = BB at *
    simp [works_tail, e5, cop_eq, z5, bmTy, rc, e6, three, wd, pu]
theorem works_ok {n k e m : Nat} (he : 0 < e) (he' : e ≤ 100) (hm : m ≤ 100) (t : IsTape h n k) (hk : k + 1300 < 2 ^ 40) : ∃ (ws : List Win) (ds : List D), (∀ w ∈ ws, WinOk e w) ∧ ws.length ≤ m ∧ callF l F_law_works [.ref n, .int (m : Int), .int (e : Int)] h = .ok (.tup (ws.map winD)) (h.set n (.lst ds)) ∧ IsTape (h.set n (.lst ds)) n (k + 1300) := by
  have hn := t.lt
  obtain ⟨v, d1, v0, v1, e1, t1⟩ := draw_ok (l := h.length :: l) (t.app (g := [.lst []])) (by omega) (m := (m : Int) + 1) (by omega) (by omega)
  rw [set_left hn] at e1 t1
  obtain ⟨c, rfl⟩ : ∃ c : Nat, v = c := ⟨v.toNat, by omega⟩
  have lr : (rg 0 (c : Int)).length = c := by simp [rg]
  obtain ⟨ws, d2, e2, l2, p2, t2⟩ := draw_pushP (l := h.length :: l) (h := h) (tg := [4]) (kill := [4, 5, 6]) (body := F_law_works_b1) (n := n) (c := 12) (σ := [some (.ref n), some (.int (m : Int)), some (.int (e : Int)), some (.ref h.length), none, none, none]) (enc := winD) (P := WinOk e) (fun d k ds b pb t hk hb => works_turn he he' hn pb t hk hb) (rg 0 c) _ d1 [] (by simp) t1 (by rw [lr]; omega) (by rw [lr]; simp; omega)
  rw [lr] at l2 t2
  rw [List.length_nil, Nat.zero_add] at l2
  refine ⟨ws, d2, p2, by omega, ?_, (t2.left (by simpa using hn)).mono (by omega)⟩
  have rv := fun hh => rgV_ok (h := hh) (rgOk_nat (k := c) (by omega))
  have zz : 0 ≤ sizeLine := Nat.zero_le _
  have bt : blt .tuple (h.set n (.lst d2) ++ [.lst (ws.map winD)]) [.ref h.length] = .ok (.tup (ws.map winD)) (h.set n (.lst d2) ++ [.lst (ws.map winD)]) := by
    simp only [blt, b_tuple, Mp.seqOf, Mp.listOf, lstOf, getL_last (h := h.set n (.lst d2)) set_len]
  have u : ∀ b, (D.tup (ws.map winD)).und b = true := fun b => by simp [D.und, unds_map b (und_win b) ws]
  simp only [List.map_nil] at e2
  have tk : List.take h.length (h.set n (.lst d2) ++ [Ob.lst (ws.map winD)]) = h.set n (.lst d2) := by
    rw [List.take_append_of_le_length (by simp), List.take_of_length_le (by simp)]
  generalize D.tup (ws.map winD) = T at *
  have body : exL (h.length :: l) (Fn.body F_law_works) [some (.ref n), some (.int (m : Int)), some (.int (e : Int)), none, none, none, none] h = .ok (.rt T) (h.set n (.lst d2) ++ [.lst (ws.map winD)]) := by
    generalize ws.map winD = X1 at *
    generalize rg 0 (c : Int) = r1 at *
    simp only [F_law_works, Fn.body, exL_cons, exL_nil, exS_set, exS_for, exS_ret, evE_alloc, evE_lst, evL_nil, evL_cons, List.length_nil, zz, if_true, allocV, R.bind_ok, stE_ok, List.set_cons_zero, List.set_cons_succ, seqFl, evI_rg1, evE_call, evE_var, evE_cst, varV, List.getElem?_cons_zero, List.getElem?_cons_succ, evE_bop, bop_add, e1, rv, killAll, e2, evE_blt, bt]
  rw [callF_rt (σ := [some (.ref n), some (.int (m : Int)), some (.int (e : Int)), none, none, none, none]) F_law_works rfl rfl rfl rfl body]
  simp [fin, u, tk]
end
end Mp

namespace K
open PySem Mp
noncomputable def F_is_whole : Fn := .mk 1 1 false
  (.cons (.ret (.and (.isin (.var 0) [.int]) (.not (.isin (.var 0) [.bool]))))
  .nil)

noncomputable def F_divisor_b1 : SL :=
  (.cons (.par 0 1 (.cons (.var 1) (.cons (.bop .mod (.var 0) (.var 1)) .nil)))
  .nil)
noncomputable def F_divisor : Fn := .mk 2 2 false
  (.cons (.while_ (.cmp .ne (.var 1) (.cst (.int 0))) F_divisor_b1 [])
  (.cons (.ret (.var 0))
  .nil))

noncomputable def F_is_ratio : Fn := .mk 1 1 false
  (.cons (.ite (.or (.not (.isin (.var 0) [.tuple])) (.or (.cmp .ne (.blt .len (.cons (.var 0) .nil)) (.cst (.int 2))) (.or (.not (.call "is_whole" F_is_whole (.cons (.ix (.var 0) (.cst (.int 0))) .nil))) (.not (.call "is_whole" F_is_whole (.cons (.ix (.var 0) (.cst (.int 1))) .nil))))))
 (.cons (.ret (.cst (.bl false)))
  .nil)
 .nil)
  (.cons (.ret (.and (.cmp .gt (.ix (.var 0) (.cst (.int 1))) (.cst (.int 0))) (.cmp .eq (.call "divisor" F_divisor (.cons (.blt .abs (.cons (.ix (.var 0) (.cst (.int 0))) .nil)) (.cons (.ix (.var 0) (.cst (.int 1))) .nil))) (.cst (.int 1)))))
  .nil))

noncomputable def F_ratio : Fn := .mk 2 3 false
  (.cons (.ite (.cmp .eq (.var 1) (.cst (.int 0)))
 (.cons (.raise "NoRatio" .nil)
  .nil)
 .nil)
  (.cons (.ite (.cmp .lt (.var 1) (.cst (.int 0)))
 (.cons (.set 0 (.neg (.var 0)))
  (.cons (.set 1 (.neg (.var 1)))
  .nil))
 .nil)
  (.cons (.set 2 (.call "divisor" F_divisor (.cons (.blt .abs (.cons (.var 0) .nil)) (.cons (.var 1) .nil))))
  (.cons (.ret (.tup (.cons (.bop .fdiv (.var 0) (.var 2)) (.cons (.bop .fdiv (.var 1) (.var 2)) .nil))))
  .nil))))

noncomputable def F_minus : Fn := .mk 2 2 false
  (.cons (.ret (.call "ratio" F_ratio (.cons (.bop .sub (.bop .mul (.ix (.var 0) (.cst (.int 0))) (.ix (.var 1) (.cst (.int 1)))) (.bop .mul (.ix (.var 1) (.cst (.int 0))) (.ix (.var 0) (.cst (.int 1))))) (.cons (.bop .mul (.ix (.var 0) (.cst (.int 1))) (.ix (.var 1) (.cst (.int 1)))) .nil))))
  .nil)

noncomputable def F_over : Fn := .mk 2 2 false
  (.cons (.ret (.call "ratio" F_ratio (.cons (.bop .mul (.ix (.var 0) (.cst (.int 0))) (.ix (.var 1) (.cst (.int 1)))) (.cons (.bop .mul (.ix (.var 0) (.cst (.int 1))) (.ix (.var 1) (.cst (.int 0)))) .nil))))
  .nil)

noncomputable def F_is_less : Fn := .mk 2 2 false
  (.cons (.ret (.cmp .lt (.bop .mul (.ix (.var 0) (.cst (.int 0))) (.ix (.var 1) (.cst (.int 1)))) (.bop .mul (.ix (.var 1) (.cst (.int 0))) (.ix (.var 0) (.cst (.int 1))))))
  .nil)

noncomputable def F_is_pair : Fn := .mk 1 1 false
  (.cons (.ret (.and (.isin (.var 0) [.tuple]) (.and (.cmp .eq (.blt .len (.cons (.var 0) .nil)) (.cst (.int 2))) (.and (.call "is_ratio" F_is_ratio (.cons (.ix (.var 0) (.cst (.int 0))) .nil)) (.call "is_ratio" F_is_ratio (.cons (.ix (.var 0) (.cst (.int 1))) .nil))))))
  .nil)

noncomputable def F_slope_between : Fn := .mk 2 2 false
  (.cons (.ret (.call "over" F_over (.cons (.call "minus" F_minus (.cons (.ix (.var 1) (.cst (.int 1))) (.cons (.ix (.var 0) (.cst (.int 1))) .nil))) (.cons (.call "minus" F_minus (.cons (.ix (.var 1) (.cst (.int 0))) (.cons (.ix (.var 0) (.cst (.int 0))) .nil))) .nil))))
  .nil)

noncomputable def F_is_behind : Fn := .mk 2 2 false
  (.cons (.ite (.cmp .eq (.var 0) (.tup .nil))
 (.cons (.ret (.and (.cmp .eq (.ix (.var 1) (.cst (.int 0))) (.glob "NOUGHT" (.tup [(.int 0), (.int 1)]))) (.not (.call "is_less" F_is_less (.cons (.ix (.var 1) (.cst (.int 1))) (.cons (.glob "NOUGHT" (.tup [(.int 0), (.int 1)])) .nil))))))
  .nil)
 .nil)
  (.cons (.ite (.or (.not (.call "is_less" F_is_less (.cons (.ix (.ix (.var 0) (.neg (.cst (.int 1)))) (.cst (.int 0))) (.cons (.ix (.var 1) (.cst (.int 0))) .nil)))) (.not (.call "is_less" F_is_less (.cons (.ix (.ix (.var 0) (.neg (.cst (.int 1)))) (.cst (.int 1))) (.cons (.ix (.var 1) (.cst (.int 1))) .nil)))))
 (.cons (.ret (.cst (.bl false)))
  .nil)
 .nil)
  (.cons (.ret (.or (.cmp .lt (.blt .len (.cons (.var 0) .nil)) (.cst (.int 2))) (.not (.call "is_less" F_is_less (.cons (.call "slope_between" F_slope_between (.cons (.ix (.var 0) (.neg (.cst (.int 1)))) (.cons (.var 1) .nil))) (.cons (.call "slope_between" F_slope_between (.cons (.ix (.var 0) (.neg (.cst (.int 2)))) (.cons (.ix (.var 0) (.neg (.cst (.int 1)))) .nil))) .nil))))))
  .nil)))

noncomputable def F_right_rule_b1 : SL :=
  (.cons (.ite (.or (.not (.call "is_pair" F_is_pair (.cons (.var 2) .nil))) (.not (.call "is_behind" F_is_behind (.cons (.sl (.ix (.var 0) (.cst (.int 1))) .no (.var 1)) (.cons (.var 2) .nil)))))
 (.cons (.raise "NoRule" (.cons (.var 1) .nil))
  .nil)
 .nil)
  .nil)
noncomputable def F_right_rule : Fn := .mk 1 3 false
  (.cons (.ite (.or (.not (.isin (.var 0) [.tuple])) (.or (.cmp .ne (.blt .len (.cons (.var 0) .nil)) (.cst (.int 2))) (.not (.isin (.ix (.var 0) (.cst (.int 0))) [.str]))))
 (.cons (.raise "NoRule" (.cons (.neg (.cst (.int 1))) .nil))
  .nil)
 .nil)
  (.cons (.ite (.cmp .eq (.ix (.var 0) (.cst (.int 0))) (.cst (.str (Str.ofString "power"))))
 (.cons (.ite (.or (.not (.call "is_whole" F_is_whole (.cons (.ix (.var 0) (.cst (.int 1))) .nil))) (.or (.cmp .lt (.ix (.var 0) (.cst (.int 1))) (.cst (.int 2))) (.cmp .gt (.ix (.var 0) (.cst (.int 1))) (.cst (.int 4)))))
 (.cons (.raise "NoRule" (.cons (.neg (.cst (.int 1))) .nil))
  .nil)
 .nil)
  (.cons (.ret (.cst (.bl true)))
  .nil))
 .nil)
  (.cons (.ite (.or (.cmp .ne (.ix (.var 0) (.cst (.int 0))) (.cst (.str (Str.ofString "table")))) (.or (.not (.isin (.ix (.var 0) (.cst (.int 1))) [.tuple])) (.or (.cmp .lt (.blt .len (.cons (.ix (.var 0) (.cst (.int 1))) .nil)) (.cst (.int 2))) (.cmp .gt (.blt .len (.cons (.ix (.var 0) (.cst (.int 1))) .nil)) (.cst (.int 12))))))
 (.cons (.raise "NoRule" (.cons (.neg (.cst (.int 1))) .nil))
  .nil)
 .nil)
  (.cons (.for_ [1, 2] (.enum (.ix (.var 0) (.cst (.int 1)))) F_right_rule_b1 [1, 2])
  (.cons (.ret (.cst (.bl true)))
  .nil)))))

noncomputable def F_law_tape : Fn := .mk 1 1 true
  (.cons (.ret (.alloc (.lst (.cons (.sl (.var 0) .no (.cst (.int 63))) (.cons (.cst (.int 0)) (.cons (.cst (.int 0)) (.cons (.cst (.int 0)) .nil)))))))
  .nil)

noncomputable def F_law_draw_b1 : SL :=
  (.cons (.ite (.cmp .ge (.blt .abs (.cons (.ix (.var 2) (.ix (.var 0) (.cst (.int 3)))) .nil)) (.bop .pow (.cst (.int 10)) (.cst (.int 18))))
 (.cons (.ixSet (.var 0) (.cst (.int 2)) (.blt .abs (.cons (.ix (.var 2) (.ix (.var 0) (.cst (.int 3)))) .nil)))
  .nil)
 .nil)
  (.cons (.ixSet (.var 0) (.cst (.int 3)) (.bop .add (.ix (.var 0) (.cst (.int 3))) (.cst (.int 1))))
  .nil))
noncomputable def F_law_draw : Fn := .mk 2 7 false
  (.cons (.set 2 (.ix (.var 0) (.cst (.int 0))))
  (.cons (.set 3 (.ix (.var 0) (.cst (.int 1))))
  (.cons (.ixSet (.var 0) (.cst (.int 1)) (.bop .add (.var 3) (.cst (.int 1))))
  (.cons (.while_ (.and (.cmp .eq (.ix (.var 0) (.cst (.int 2))) (.cst (.int 0))) (.cmp .lt (.ix (.var 0) (.cst (.int 3))) (.blt .len (.cons (.var 2) .nil)))) F_law_draw_b1 [])
  (.cons (.ite (.cmp .gt (.ix (.var 0) (.cst (.int 2))) (.cst (.int 0)))
 (.cons (.set 6 (.ix (.var 0) (.cst (.int 2))))
  (.cons (.ixSet (.var 0) (.cst (.int 2)) (.bop .fdiv (.var 6) (.var 1)))
  (.cons (.ret (.bop .mod (.var 6) (.var 1)))
  .nil)))
 .nil)
  (.cons (.set 4 (.cst (.int 0)))
  (.cons (.ite (.cmp .gt (.blt .len (.cons (.var 2) .nil)) (.cst (.int 0)))
 (.cons (.set 4 (.ix (.var 2) (.bop .mod (.var 3) (.blt .len (.cons (.var 2) .nil)))))
  .nil)
 .nil)
  (.cons (.set 5 (.bop .mod (.bop .mul (.bop .add (.bop .mod (.var 4) (.cst (.int 1000003))) (.cst (.int 1))) (.bop .add (.bop .add (.bop .mul (.bop .mod (.var 3) (.cst (.int 997))) (.cst (.int 7919))) (.cst (.int 104729))) (.var 3))) (.cst (.int 1000033))))
  (.cons (.set 5 (.bop .mod (.bop .add (.bop .add (.bop .mul (.var 5) (.var 5)) (.bop .mul (.cst (.int 3)) (.var 5))) (.var 3)) (.cst (.int 999983))))
  (.cons (.ret (.bop .mod (.bop .mod (.bop .mul (.var 5) (.cst (.int 48271))) (.cst (.int 65537))) (.var 1)))
  .nil))))))))))

noncomputable def F_law_gcd_b1 : SL :=
  (.cons (.par 0 1 (.cons (.var 1) (.cons (.bop .mod (.var 0) (.var 1)) .nil)))
  .nil)
noncomputable def F_law_gcd : Fn := .mk 2 2 false
  (.cons (.while_ (.cmp .ne (.var 1) (.cst (.int 0))) F_law_gcd_b1 [])
  (.cons (.ret (.var 0))
  .nil))

noncomputable def F_law_ratio : Fn := .mk 2 3 false
  (.cons (.set 2 (.call "_law_gcd" F_law_gcd (.cons (.blt .abs (.cons (.var 0) .nil)) (.cons (.blt .abs (.cons (.var 1) .nil)) .nil))))
  (.cons (.ite (.cmp .lt (.var 1) (.cst (.int 0)))
 (.cons (.set 2 (.neg (.var 2)))
  .nil)
 .nil)
  (.cons (.ret (.tup (.cons (.bop .fdiv (.var 0) (.var 2)) (.cons (.bop .fdiv (.var 1) (.var 2)) .nil))))
  .nil)))

noncomputable def F_law_plus : Fn := .mk 2 2 false
  (.cons (.ret (.call "_law_ratio" F_law_ratio (.cons (.bop .add (.bop .mul (.ix (.var 0) (.cst (.int 0))) (.ix (.var 1) (.cst (.int 1)))) (.bop .mul (.ix (.var 1) (.cst (.int 0))) (.ix (.var 0) (.cst (.int 1))))) (.cons (.bop .mul (.ix (.var 0) (.cst (.int 1))) (.ix (.var 1) (.cst (.int 1)))) .nil))))
  .nil)

noncomputable def F_law_minus : Fn := .mk 2 2 false
  (.cons (.ret (.call "_law_ratio" F_law_ratio (.cons (.bop .sub (.bop .mul (.ix (.var 0) (.cst (.int 0))) (.ix (.var 1) (.cst (.int 1)))) (.bop .mul (.ix (.var 1) (.cst (.int 0))) (.ix (.var 0) (.cst (.int 1))))) (.cons (.bop .mul (.ix (.var 0) (.cst (.int 1))) (.ix (.var 1) (.cst (.int 1)))) .nil))))
  .nil)

noncomputable def F_law_times : Fn := .mk 2 2 false
  (.cons (.ret (.call "_law_ratio" F_law_ratio (.cons (.bop .mul (.ix (.var 0) (.cst (.int 0))) (.ix (.var 1) (.cst (.int 0)))) (.cons (.bop .mul (.ix (.var 0) (.cst (.int 1))) (.ix (.var 1) (.cst (.int 1)))) .nil))))
  .nil)

noncomputable def F_law_less : Fn := .mk 2 2 false
  (.cons (.ret (.cmp .lt (.bop .mul (.ix (.var 0) (.cst (.int 0))) (.ix (.var 1) (.cst (.int 1)))) (.bop .mul (.ix (.var 1) (.cst (.int 0))) (.ix (.var 0) (.cst (.int 1))))))
  .nil)

noncomputable def F_law_part : Fn := .mk 1 3 false
  (.cons (.set 1 (.lst (.cons (.cst (.int 1)) (.cons (.cst (.int 2)) (.cons (.cst (.int 3)) (.cons (.cst (.int 5)) (.cons (.bop .add (.cst (.int 1)) (.call "_law_draw" F_law_draw (.cons (.var 0) (.cons (.cst (.int 40)) .nil)))) (.cons (.bop .add (.cst (.int 1)) (.call "_law_draw" F_law_draw (.cons (.var 0) (.cons (.cst (.int 60000)) .nil)))) (.cons (.bop .add (.bop .pow (.cst (.int 10)) (.cst (.int 9))) (.cst (.int 7))) .nil)))))))))
  (.cons (.set 2 (.lst (.cons (.cst (.int 1)) (.cons (.cst (.int 1)) (.cons (.cst (.int 1)) (.cons (.cst (.int 2)) (.cons (.cst (.int 3)) (.cons (.cst (.int 6)) (.cons (.bop .add (.cst (.int 1)) (.call "_law_draw" F_law_draw (.cons (.var 0) (.cons (.cst (.int 30)) .nil)))) (.cons (.bop .pow (.cst (.int 10)) (.cst (.int 9))) .nil))))))))))
  (.cons (.ret (.call "_law_ratio" F_law_ratio (.cons (.ix (.var 1) (.call "_law_draw" F_law_draw (.cons (.var 0) (.cons (.cst (.int 7)) .nil)))) (.cons (.ix (.var 2) (.call "_law_draw" F_law_draw (.cons (.var 0) (.cons (.cst (.int 8)) .nil)))) .nil))))
  .nil)))

noncomputable def F_law_table_b1 : SL :=
  (.cons (.set 4 (.call "_law_part" F_law_part (.cons (.var 0) .nil)))
  (.cons (.unp [5, 6] (.ix (.var 1) (.neg (.cst (.int 1)))))
  (.cons (.ex (.bm .append (.var 1) (.cons (.tup (.cons (.call "_law_plus" F_law_plus (.cons (.var 5) (.cons (.var 4) .nil))) (.cons (.call "_law_plus" F_law_plus (.cons (.var 6) (.cons (.call "_law_times" F_law_times (.cons (.var 2) (.cons (.var 4) .nil))) .nil))) .nil))) .nil)))
  (.cons (.ite (.cmp .gt (.call "_law_draw" F_law_draw (.cons (.var 0) (.cons (.cst (.int 4)) .nil))) (.cst (.int 0)))
 (.cons (.set 2 (.call "_law_plus" F_law_plus (.cons (.var 2) (.cons (.call "_law_part" F_law_part (.cons (.var 0) .nil)) .nil))))
  .nil)
 .nil)
  .nil))))
noncomputable def F_law_table : Fn := .mk 1 7 false
  (.cons (.set 1 (.alloc (.lst (.cons (.tup (.cons (.tup (.cons (.cst (.int 0)) (.cons (.cst (.int 1)) .nil))) (.cons (.ix (.lst (.cons (.tup (.cons (.cst (.int 0)) (.cons (.cst (.int 1)) .nil))) (.cons (.call "_law_part" F_law_part (.cons (.var 0) .nil)) .nil))) (.call "_law_draw" F_law_draw (.cons (.var 0) (.cons (.cst (.int 2)) .nil)))) .nil))) .nil))))
  (.cons (.set 2 (.call "_law_part" F_law_part (.cons (.var 0) .nil)))
  (.cons (.for_ [3] (.rg1 (.ix (.lst (.cons (.cst (.int 1)) (.cons (.cst (.int 2)) (.cons (.cst (.int 3)) (.cons (.cst (.int 5)) (.cons (.cst (.int 11)) .nil)))))) (.call "_law_draw" F_law_draw (.cons (.var 0) (.cons (.cst (.int 5)) .nil))))) F_law_table_b1 [3, 4, 5, 6])
  (.cons (.ret (.tup (.cons (.cst (.str (Str.ofString "table"))) (.cons (.blt .tuple (.cons (.var 1) .nil)) .nil))))
  .nil))))

noncomputable def F_law_rule : Fn := .mk 1 1 false
  (.cons (.ite (.cmp .eq (.call "_law_draw" F_law_draw (.cons (.var 0) (.cons (.cst (.int 3)) .nil))) (.cst (.int 0)))
 (.cons (.ret (.tup (.cons (.cst (.str (Str.ofString "power"))) (.cons (.bop .add (.cst (.int 2)) (.call "_law_draw" F_law_draw (.cons (.var 0) (.cons (.cst (.int 3)) .nil)))) .nil))))
  .nil)
 .nil)
  (.cons (.ret (.call "_law_table" F_law_table (.cons (.var 0) .nil)))
  .nil))

noncomputable def F_law_whole : Fn := .mk 1 1 false
  (.cons (.ret (.and (.isin (.var 0) [.int]) (.not (.isin (.var 0) [.bool]))))
  .nil)

noncomputable def F_law_is_ratio : Fn := .mk 1 1 false
  (.cons (.ite (.or (.not (.isin (.var 0) [.tuple])) (.or (.cmp .ne (.blt .len (.cons (.var 0) .nil)) (.cst (.int 2))) (.or (.not (.call "_law_whole" F_law_whole (.cons (.ix (.var 0) (.cst (.int 0))) .nil))) (.not (.call "_law_whole" F_law_whole (.cons (.ix (.var 0) (.cst (.int 1))) .nil))))))
 (.cons (.ret (.cst (.bl false)))
  .nil)
 .nil)
  (.cons (.ret (.and (.cmp .gt (.ix (.var 0) (.cst (.int 1))) (.cst (.int 0))) (.cmp .eq (.call "_law_gcd" F_law_gcd (.cons (.blt .abs (.cons (.ix (.var 0) (.cst (.int 0))) .nil)) (.cons (.ix (.var 0) (.cst (.int 1))) .nil))) (.cst (.int 1)))))
  .nil))

noncomputable def F_law_is_pair : Fn := .mk 1 1 false
  (.cons (.ret (.and (.isin (.var 0) [.tuple]) (.and (.cmp .eq (.blt .len (.cons (.var 0) .nil)) (.cst (.int 2))) (.and (.call "_law_is_ratio" F_law_is_ratio (.cons (.ix (.var 0) (.cst (.int 0))) .nil)) (.call "_law_is_ratio" F_law_is_ratio (.cons (.ix (.var 0) (.cst (.int 1))) .nil))))))
  .nil)

noncomputable def F_law_row_right : Fn := .mk 2 7 false
  (.cons (.unp [2, 3] (.ix (.var 0) (.var 1)))
  (.cons (.ite (.cmp .eq (.var 1) (.cst (.int 0)))
 (.cons (.ret (.and (.cmp .eq (.var 2) (.tup (.cons (.cst (.int 0)) (.cons (.cst (.int 1)) .nil)))) (.cmp .ge (.ix (.var 3) (.cst (.int 0))) (.cst (.int 0)))))
  .nil)
 .nil)
  (.cons (.ite (.or (.not (.call "_law_less" F_law_less (.cons (.ix (.ix (.var 0) (.bop .sub (.var 1) (.cst (.int 1)))) (.cst (.int 0))) (.cons (.var 2) .nil)))) (.not (.call "_law_less" F_law_less (.cons (.ix (.ix (.var 0) (.bop .sub (.var 1) (.cst (.int 1)))) (.cst (.int 1))) (.cons (.var 3) .nil)))))
 (.cons (.ret (.cst (.bl false)))
  .nil)
 .nil)
  (.cons (.ite (.cmp .eq (.var 1) (.cst (.int 1)))
 (.cons (.ret (.cst (.bl true)))
  .nil)
 .nil)
  (.cons (.set 4 (.comp (.call "_law_minus" F_law_minus (.cons (.ix (.ix (.var 0) (.bop .add (.var 6) (.cst (.int 1)))) (.cst (.int 0))) (.cons (.ix (.ix (.var 0) (.var 6)) (.cst (.int 0))) .nil))) [6] (.seq (.tup (.cons (.bop .sub (.var 1) (.cst (.int 2))) (.cons (.bop .sub (.var 1) (.cst (.int 1))) .nil)))) .no))
  (.cons (.set 5 (.comp (.call "_law_minus" F_law_minus (.cons (.ix (.ix (.var 0) (.bop .add (.var 6) (.cst (.int 1)))) (.cst (.int 1))) (.cons (.ix (.ix (.var 0) (.var 6)) (.cst (.int 1))) .nil))) [6] (.seq (.tup (.cons (.bop .sub (.var 1) (.cst (.int 2))) (.cons (.bop .sub (.var 1) (.cst (.int 1))) .nil)))) .no))
  (.cons (.ret (.not (.call "_law_less" F_law_less (.cons (.call "_law_times" F_law_times (.cons (.ix (.var 5) (.cst (.int 1))) (.cons (.ix (.var 4) (.cst (.int 0))) .nil))) (.cons (.call "_law_times" F_law_times (.cons (.ix (.var 5) (.cst (.int 0))) (.cons (.ix (.var 4) (.cst (.int 1))) .nil))) .nil)))))
  .nil)))))))

noncomputable def F_law_due_b1 : SL :=
  (.cons (.ite (.or (.not (.call "_law_is_pair" F_law_is_pair (.cons (.ix (.ix (.var 0) (.cst (.int 1))) (.var 1)) .nil))) (.not (.call "_law_row_right" F_law_row_right (.cons (.ix (.var 0) (.cst (.int 1))) (.cons (.var 1) .nil)))))
 (.cons (.ret (.var 1))
  .nil)
 .nil)
  .nil)
noncomputable def F_law_due : Fn := .mk 1 2 false
  (.cons (.ite (.or (.not (.isin (.var 0) [.tuple])) (.or (.cmp .ne (.blt .len (.cons (.var 0) .nil)) (.cst (.int 2))) (.not (.isin (.ix (.var 0) (.cst (.int 0))) [.str]))))
 (.cons (.ret (.neg (.cst (.int 1))))
  .nil)
 .nil)
  (.cons (.ite (.and (.cmp .eq (.ix (.var 0) (.cst (.int 0))) (.cst (.str (Str.ofString "power")))) (.and (.call "_law_whole" F_law_whole (.cons (.ix (.var 0) (.cst (.int 1))) .nil)) (.chain .le .le (.cst (.int 2)) (.ix (.var 0) (.cst (.int 1))) (.cst (.int 4)))))
 (.cons (.ret (.cst .non))
  .nil)
 .nil)
  (.cons (.ite (.or (.cmp .ne (.ix (.var 0) (.cst (.int 0))) (.cst (.str (Str.ofString "table")))) (.or (.not (.isin (.ix (.var 0) (.cst (.int 1))) [.tuple])) (.blt (.inR true true) (.cons (.blt .len (.cons (.ix (.var 0) (.cst (.int 1))) .nil)) (.cons (.cst (.int 2)) (.cons (.cst (.int 13)) .nil))))))
 (.cons (.ret (.neg (.cst (.int 1))))
  .nil)
 .nil)
  (.cons (.for_ [1] (.rg1 (.blt .len (.cons (.ix (.var 0) (.cst (.int 1))) .nil))) F_law_due_b1 [1])
  (.cons (.ret (.cst .non))
  .nil)))))

noncomputable def F_law_bent_row : Fn := .mk 3 7 false
  (.cons (.unp [3, 4] (.ix (.var 1) (.var 2)))
  (.cons (.set 5 (.tup (.cons (.cst (.int 1)) (.cons (.bop .pow (.cst (.int 10)) (.cst (.int 6))) .nil))))
  (.cons (.set 6 (.lst (.cons (.tup (.cons (.call "_law_plus" F_law_plus (.cons (.var 3) (.cons (.var 5) .nil))) (.cons (.var 4) .nil))) (.cons (.tup (.cons (.var 3) (.cons (.call "_law_minus" F_law_minus (.cons (.var 4) (.cons (.var 5) .nil))) .nil))) (.cons (.tup (.cons (.var 3) (.cons (.call "_law_plus" F_law_plus (.cons (.var 4) (.cons (.var 5) .nil))) .nil))) .nil)))))
  (.cons (.set 6 (.bop .add (.var 6) (.lst (.cons (.ix (.var 1) (.bop .sub (.var 2) (.cst (.int 1)))) (.cons (.tup (.cons (.ix (.ix (.var 1) (.bop .sub (.var 2) (.cst (.int 1)))) (.cst (.int 0))) (.cons (.var 4) .nil))) (.cons (.tup (.cons (.var 3) (.cons (.ix (.ix (.var 1) (.bop .sub (.var 2) (.cst (.int 1)))) (.cst (.int 1))) .nil))) (.cons (.lst (.cons (.var 3) (.cons (.var 4) .nil))) (.cons (.tup (.cons (.var 3) .nil)) (.cons (.cst .non) .nil)))))))))
  (.cons (.set 6 (.bop .add (.var 6) (.lst (.cons (.tup (.cons (.var 3) (.cons (.ix (.var 4) (.cst (.int 0))) .nil))) (.cons (.tup (.cons (.var 3) (.cons (.tup (.cons (.bop .mul (.cst (.int 2)) (.ix (.var 4) (.cst (.int 0)))) (.cons (.bop .mul (.cst (.int 2)) (.ix (.var 4) (.cst (.int 1)))) .nil))) .nil))) (.cons (.tup (.cons (.tup (.cons (.cst (.bl true)) (.cons (.cst (.int 1)) .nil))) (.cons (.var 4) .nil))) (.cons (.tup (.cons (.var 4) (.cons (.var 3) .nil))) .nil)))))))
  (.cons (.ret (.ix (.var 6) (.call "_law_draw" F_law_draw (.cons (.var 0) (.cons (.cst (.int 13)) .nil)))))
  .nil))))))

noncomputable def F_law_bent : Fn := .mk 2 6 false
  (.cons (.set 2 (.call "_law_draw" F_law_draw (.cons (.var 0) (.cons (.cst (.int 8)) .nil))))
  (.cons (.ite (.cmp .eq (.var 2) (.cst (.int 0)))
 (.cons (.set 5 (.lst (.cons (.blt .list (.cons (.var 1) .nil)) (.cons (.bop .add (.var 1) (.tup (.cons (.tup .nil) .nil))) (.cons (.sl (.var 1) .no (.cst (.int 1))) (.cons (.cst .non) (.cons (.tup (.cons (.cst (.str (Str.ofString "Power"))) (.cons (.cst (.int 2)) .nil))) (.cons (.tup (.cons (.cst (.int 2)) (.cons (.cst (.int 2)) .nil))) (.cons (.tup (.cons (.cst (.str (Str.ofString "power"))) (.cons (.cst (.int 1)) .nil))) (.cons (.tup (.cons (.cst (.str (Str.ofString "power"))) (.cons (.cst (.int 5)) .nil))) .nil))))))))))
  (.cons (.ret (.ix (.bop .add (.var 5) (.lst (.cons (.tup (.cons (.cst (.str (Str.ofString "power"))) (.cons (.cst (.bl true)) .nil))) (.cons (.tup (.cons (.cst (.str (Str.ofString "power"))) (.cons (.tup (.cons (.cst (.int 2)) (.cons (.cst (.int 1)) .nil))) .nil))) (.cons (.tup (.cons (.cst (.str (Str.ofString "table"))) (.cons (.cst (.int 2)) .nil))) (.cons (.tup (.cons (.cst (.str (Str.ofString "table"))) (.cons (.tup .nil) .nil))) .nil)))))) (.call "_law_draw" F_law_draw (.cons (.var 0) (.cons (.cst (.int 12)) .nil)))))
  .nil))
 .nil)
  (.cons (.ite (.cmp .eq (.ix (.var 1) (.cst (.int 0))) (.cst (.str (Str.ofString "power"))))
 (.cons (.ret (.tup (.cons (.ix (.lst (.cons (.cst (.str (Str.ofString "table"))) (.cons (.cst (.str (Str.ofString "power"))) (.cons (.cst (.str (Str.ofString "step"))) .nil)))) (.call "_law_draw" F_law_draw (.cons (.var 0) (.cons (.cst (.int 3)) .nil)))) (.cons (.ix (.var 1) (.cst (.int 1))) .nil))))
  .nil)
 .nil)
  (.cons (.set 3 (.ix (.var 1) (.cst (.int 1))))
  (.cons (.ite (.cmp .eq (.var 2) (.cst (.int 1)))
 (.cons (.ret (.tup (.cons (.cst (.str (Str.ofString "table"))) (.cons (.ix (.lst (.cons (.blt .list (.cons (.var 3) .nil)) (.cons (.sl (.var 3) .no (.cst (.int 1))) (.cons (.bop .add (.var 3) (.var 3)) (.cons (.sl (.var 3) (.cst (.int 1)) .no) .nil))))) (.call "_law_draw" F_law_draw (.cons (.var 0) (.cons (.cst (.int 4)) .nil)))) .nil))))
  .nil)
 .nil)
  (.cons (.set 4 (.call "_law_draw" F_law_draw (.cons (.var 0) (.cons (.blt .len (.cons (.var 3) .nil)) .nil))))
  (.cons (.ite (.cmp .eq (.var 2) (.cst (.int 2)))
 (.cons (.ret (.tup (.cons (.cst (.str (Str.ofString "table"))) (.cons (.bop .add (.sl (.var 3) .no (.var 4)) (.sl (.var 3) (.bop .add (.var 4) (.cst (.int 1))) .no)) .nil))))
  .nil)
 .nil)
  (.cons (.ite (.cmp .eq (.var 2) (.cst (.int 3)))
 (.cons (.ret (.tup (.cons (.cst (.str (Str.ofString "table"))) (.cons (.bop .add (.bop .add (.sl (.var 3) .no (.var 4)) (.sl (.var 3) (.var 4) (.bop .add (.var 4) (.cst (.int 1))))) (.sl (.var 3) (.var 4) .no)) .nil))))
  .nil)
 .nil)
  (.cons (.ret (.tup (.cons (.cst (.str (Str.ofString "table"))) (.cons (.bop .add (.bop .add (.sl (.var 3) .no (.var 4)) (.tup (.cons (.call "_law_bent_row" F_law_bent_row (.cons (.var 0) (.cons (.var 3) (.cons (.var 4) .nil)))) .nil))) (.sl (.var 3) (.bop .add (.var 4) (.cst (.int 1))) .no)) .nil))))
  .nil)))))))))

noncomputable def F_law_told : Fn := .mk 1 3 false
  (.cons (.set 1 (.cst (.str (Str.ofString "other"))))
  (.cons (.try_ (.cons (.ite (.isB (.call "right_rule" F_right_rule (.cons (.var 0) .nil)) true)
 (.cons (.set 1 (.cst .non))
  .nil)
 .nil)
  .nil)
  (.cons "PaceError" (some 2) (.cons (.ite (.and (.isin (.var 2) [.own "NoRule"]) (.and (.isin (.var 2) [.own "ValueError"]) (.not (.isin (.var 2) [.own "NoPlan", .own "NoSheet", .own "NoSpeed"]))))
 (.cons (.set 1 (.xfld (.var 2) "number"))
  .nil)
 .nil)
  .nil)
  .nil))
  (.cons (.ret (.var 1))
  .nil)))

noncomputable def F_law_b1 : SL :=
  (.cons (.set 5 (.blt .repr (.cons (.var 4) .nil)))
  (.cons (.ite (.or (.cmp .ne (.blt .repr (.cons (.call "_law_told" F_law_told (.cons (.var 4) .nil)) .nil)) (.blt .repr (.cons (.call "_law_due" F_law_due (.cons (.var 4) .nil)) .nil))) (.cmp .ne (.blt .repr (.cons (.var 4) .nil)) (.var 5)))
 (.cons (.ret (.cst (.bl false)))
  .nil)
 .nil)
  .nil))
noncomputable def F_law_b2 : SL :=
  (.cons (.set 3 (.call "_law_rule" F_law_rule (.cons (.var 1) .nil)))
  (.cons (.for_ [4] (.seq (.bop .add (.lst (.cons (.var 3) .nil)) (.comp (.call "_law_bent" F_law_bent (.cons (.var 1) (.cons (.var 3) .nil))) [6] (.rg1 (.cst (.int 5))) .no))) F_law_b1 [4, 5])
  .nil))
noncomputable def F_law : Fn := .mk 1 7 false
  (.cons (.set 1 (.call "_law_tape" F_law_tape (.cons (.var 0) .nil)))
  (.cons (.for_ [2] (.rg1 (.cst (.int 5))) F_law_b2 [2, 3, 4, 5])
  (.cons (.ret (.cst (.bl true)))
  .nil)))

-- lib Mv2
-- lib Mq9
-- lib Mv3
-- lib Mq16
set_option maxHeartbeats 4000000
set_option exponentiation.threshold 10000
local macro_rules | `(tactic| walk_at "w") => `(tactic| repeat walk_at "w1")
local macro_rules | `(tactic| walk_at "w!") => `(tactic| (walk_at "w"; done))
local macro_rules | `(tactic| walk_at "hyp") => `(tactic| first | with_reducible assumption | (apply_assumption (transparency := .reducible) -exfalso -symm only [*]))
local macro_rules | `(tactic| walk_at "tf") => `(tactic| first | exact rfl | assumption | walk_at "tf2")
local macro_rules | `(tactic| walk_at "tf2") => `(tactic| first | (simp only [decide_eq_true_eq, decide_eq_false_iff_not, Bool.and_eq_true, Bool.or_eq_true, Bool.and_eq_false_iff, Bool.or_eq_false_iff, Bool.not_eq_true', Bool.not_eq_false', Bool.not_eq_eq_eq_not, Bool.not_true, Bool.not_false, beq_iff_eq, beq_eq_false_iff_ne, List.length_cons, List.length_nil] <;> omega) | (simp only [*]; done))
local macro_rules | `(tactic| walk_at "len") => `(tactic| first | assumption | exact Nat.le_of_ble_eq_true rfl | omega | (simp only [ratL, iD, List.length_take, List.length_map, List.length_range, List.length_range', List.length_cons, List.length_nil, List.length_append, List.length_replicate, List.length_set]; omega))
local macro_rules | `(tactic| walk_at "sg") => `(tactic| first | ((simp only [killAll, List.set_cons_zero, List.set_cons_succ, asSet, asGone]) <;> rfl) | rfl)
local macro_rules | `(tactic| walk_at "sgf") => `(tactic| first | ((simp only [List.map_cons, List.map_nil, List.replicate_succ, List.replicate_zero, List.cons_append, List.nil_append, Nat.reduceSub]) <;> rfl) | rfl)
local macro_rules | `(tactic| walk_at "tg") => `(tactic| first | walk_at "hyp" | ((simp only [target, setAll, killAll, List.set_cons_zero, List.set_cons_succ]) <;> rfl) | rfl)
local macro_rules | `(tactic| walk_at "cop") => `(tactic| first | walk_at "hyp" | with_reducible (first | exact cop_eq _ _ _ | exact cop_ne _ _ _ | exact cop_lt _ _ _ | exact cop_le _ _ _ | exact cop_gt _ _ _ | exact cop_ge _ _ _ | exact cop_eqb _ _ _ | exact cop_neb _ _ _))
local macro_rules | `(tactic| walk_at "bop") => `(tactic| first | with_reducible (first | exact bop_add _ _ _ | exact bop_sub _ _ _) | walk_at "hyp" | ((with_reducible first | apply W.add_lst | apply W.add_tup); (focus (walk_at "len")); (focus (first | ((simp only [List.cons_append, List.nil_append]) <;> rfl) | rfl))) | (with_reducible refine bop_mul _ ?_ ?_ <;> assumption))
local macro_rules | `(tactic| walk_at "blt") => `(tactic| first | walk_at "hyp" | with_reducible (first | exact blt_lenT _ _ | exact blt_lenL _ _ | exact blt_abs _ _ | exact W.blt_inR2 | exact W.blt_inR1))
local macro_rules | `(tactic| walk_at "leaf") => `(tactic| first | ((with_reducible apply W.lf_call); walk_at "hyp") | ((with_reducible apply W.lf_comp); walk_at "hyp") | ((with_reducible apply W.lf_for); walk_at "hyp") | ((with_reducible apply W.lf_while); walk_at "hyp") | ((with_reducible apply W.lf_get); exact rfl) | ((with_reducible apply W.lf_sg); walk_at "sg") | ((with_reducible apply W.lf_ix); first | walk_at "hyp" | exact rfl) | ((with_reducible apply W.lf_cop); walk_at "cop") | ((with_reducible apply W.lf_bop); walk_at "bop") | ((with_reducible apply W.lf_blt); walk_at "blt") | ((with_reducible apply W.lf_isin); first | walk_at "hyp" | exact rfl) | ((with_reducible apply W.lf_src); first | walk_at "hyp" | exact rfl) | ((with_reducible apply W.lf_len); walk_at "len") | ((with_reducible apply W.lf_len2); first | exact rfl | (simp [excF]; done)) | ((with_reducible apply W.lf_tg); walk_at "tg") | ((with_reducible apply W.lf_sl); first | walk_at "hyp" | exact rfl) | ((with_reducible apply W.lf_isNo); exact rfl) | ((with_reducible apply W.lf_bm); walk_at "hyp") | ((with_reducible apply W.lf_rg); first | assumption | exact rgOk_nat (by omega) | exact rgOk_sm (by omega) (by omega) (by omega) (by omega) | decide) | ((with_reducible apply W.lf_recv); first | assumption | exact recv_ref (by assumption) | exact rfl) | ((with_reducible apply W.lf_tup); exact rfl) | ((with_reducible apply W.lf_isB); first | walk_at "hyp" | exact rfl) | ((with_reducible apply W.lf_notB); exact rfl) | ((with_reducible apply W.lf_xfld); first | walk_at "hyp" | exact rfl) | ((with_reducible apply W.lf_item); walk_at "hyp") | ((with_reducible apply W.lf_vals); walk_at "hyp") | ((with_reducible apply W.lf_pick); first | walk_at "hyp" | exact rfl) | ((with_reducible apply W.lf_seq); first | walk_at "hyp" | exact rfl) | ((with_reducible apply W.lf_set); walk_at "hyp") | ((with_reducible apply W.lf_setAll); ((simp only [setAll, List.set_cons_zero, List.set_cons_succ]) <;> rfl)))
local macro_rules | `(tactic| walk_at "w1") => `(tactic| first | ((with_reducible apply W.hd_E); walk_at "wE") | ((with_reducible apply W.hd_X); first | walk_at "wX" | ((with_reducible apply W.try_s); (first | (focus (walk_at "w!")) | (focus (walk_at "wx!"))))) | ((with_reducible apply W.hd_L); with_reducible (first | apply W.lcons | exact W.lnil)) | walk_at "leaf" | ((with_reducible apply W.hd_I); with_reducible (first | apply W.seq | apply W.rg1 | apply W.rg2 | apply W.enum | apply W.zip)) | walk_at "wK")
local macro_rules | `(tactic| walk_at "wK") => `(tactic| first | ((with_reducible apply W.hd_sel); first | ((with_reducible apply W.sel_t); (focus (walk_at "tf"))) | ((with_reducible apply W.sel_f); (focus (walk_at "tf"))) | with_reducible (first | apply W.and_b | apply W.or_b)) | with_reducible (first | exact W.r_rfl | apply W.fl_nx | exact W.fl_rt | exact W.fl_xc | apply W.fo_nx | exact W.fo_rt | exact W.fo_xc | apply W.tr_nx | exact W.tr_rt) | ((with_reducible apply W.tr_c); (focus (walk_at "exc")); (focus (walk_at "w!")); (focus (walk_at "w!")); (focus (walk_at "w!"))) | ((with_reducible apply W.tr_c_rt); (focus (walk_at "exc")); (focus (walk_at "w!")); (focus (walk_at "w!"))) | ((with_reducible apply W.tr_n); (focus (walk_at "exn"))) | with_reducible (first | apply W.tu_nx | exact W.tu_rt | exact W.tu_xc) | ((with_reducible apply W.hd_it); first | ((with_reducible apply W.it_t); (focus (walk_at "tf"))) | ((with_reducible apply W.it_f); (focus (walk_at "tf")))) | with_reducible (first | apply W.fo_s | exact W.fnil | exact W.cnil | apply W.it_n) | ((with_reducible apply W.it_s); (focus exact rfl)))
local macro_rules | `(tactic| walk_at "wE") => `(tactic| first | ((with_reducible apply W.var); first | exact rfl | assumption) | ((with_reducible apply W.hd_ite); walk_at "hyp") | ((with_reducible apply W.hd_or); walk_at "hyp") | ((with_reducible apply W.hd_and); walk_at "hyp") | with_reducible (first | exact W.cst | apply W.ix | apply W.call | apply W.cmp | apply W.bop' | apply W.blt' | apply W.tup | apply W.not' | exact W.glob | apply W.isin | apply W.comp | apply W.lst | apply W.chain | apply W.and_s | apply W.or_s | apply W.ite_s | exact W.no | apply W.neg | apply W.isN | apply W.notN | apply W.isB | apply W.notB | apply W.sl_hi | apply W.sl_lo | apply W.sl_lh | apply W.rev | apply W.alloc | apply W.vals | apply W.pick | apply W.xfld | apply W.bm' | apply W.mkx))
local macro_rules | `(tactic| walk_at "wX") => `(tactic| with_reducible (first | apply W.set | exact W.nil | apply W.ap_cons | apply W.ap_nil | apply W.ret | apply W.if_s | apply W.ex | apply W.pass | apply W.for_s | apply W.kill' | apply W.par | apply W.unp | apply W.ixSet | apply W.raise | apply W.while_s))
local macro_rules | `(tactic| walk_at "fn") => `(tactic| (apply W.fn0; (focus exact rfl); (focus exact Nat.le_of_ble_eq_true rfl); (focus (walk_at "sgf"))))
local macro_rules | `(tactic| walk_at "exc") => `(tactic| first | assumption | (simp [excSub, above]; done))
local macro_rules | `(tactic| walk_at "wxe") => `(tactic| first | ((with_reducible (first | apply W.tup_x | apply W.lst_x | apply W.ix_x | apply W.not_x | apply W.isB_x | apply W.notB_x | apply W.isN_x | apply W.blt_x)); walk_at "wxe") | ((with_reducible apply W.lcons_x); (focus (walk_at "wxe"; done))) | ((with_reducible apply W.lcons_x2); (focus (walk_at "w!")); (focus (walk_at "wxe"; done))) | ((with_reducible apply W.cmp_x); (focus (walk_at "wxe"; done))) | ((with_reducible apply W.bop_x); (focus (walk_at "wxe"; done))) | ((with_reducible apply W.cmp_x2); (focus (walk_at "w!")); (focus (walk_at "wxe"; done))) | ((with_reducible apply W.bop_x2); (focus (walk_at "w!")); (focus (walk_at "wxe"; done))) | ((with_reducible apply W.call_x); (focus (walk_at "w!")); (focus (walk_at "hyp"))) | ((with_reducible apply W.call_xa); (focus (walk_at "wxe"; done))))
local macro_rules | `(tactic| walk_at "wx") => `(tactic| repeat (first | ((with_reducible apply W.set_x); (focus (walk_at "wxe"; done))) | ((with_reducible apply W.ex_x); (focus (walk_at "wxe"; done))) | ((with_reducible apply W.ret_x); (focus (walk_at "wxe"; done))) | ((with_reducible apply W.if_x); (focus (walk_at "wxe"; done))) | ((with_reducible apply W.unp_x); (focus (walk_at "wxe"; done))) | walk_at "w1"))
local macro_rules | `(tactic| walk_at "wx!") => `(tactic| (walk_at "wx"; done))
local macro_rules | `(tactic| walk_at "wl") => `(tactic| walk_at "w")
local macro_rules | `(tactic| walk_at "exn") => `(tactic| first | assumption | (simp [excSub, above]; done))
local macro_rules | `(tactic| walk_at "wl!") => `(tactic| (walk_at "wl"; done))
local macro_rules | `(tactic| walk_at "fnx") => `(tactic| (apply W.fn_xc; (focus exact rfl); (focus exact Nat.le_of_ble_eq_true rfl); (focus (walk_at "sgf"))))
local macro_rules | `(tactic| walk_at "fin") => `(tactic| first | with_reducible (first | exact fin_int rfl | exact fin_bl rfl | exact P.fin_rat rfl) | (apply W.fin_und; (focus (first | rfl | assumption | walk_at "hyp" | exact und_rat _ _ | (simp [D.und, D.unds, und_rat]; done))); (focus (first | exact W.take_same | exact W.take_set | exact W.take_app))))
local macro_rules | `(tactic| walk_at "all") => `(tactic| (walk_at "fn"; (focus (walk_at "w!")); (walk_at "fin")))
local macro_rules | `(tactic| walk_at "allx") => `(tactic| (walk_at "fnx"; (focus (walk_at "wx!")); (focus (first | rfl | (simp [D.und, D.unds, und_rat]; done))); (focus (first | exact W.take_same | exact W.take_app))))
local macro_rules | `(tactic| walk_at "turn") => `(tactic| (apply W.turn_s; walk_at "w!"))
local macro_rules | `(tactic| walk_at "turn_rt") => `(tactic| (apply W.turn_rt; (focus (walk_at "tg")); (focus (walk_at "w!"))))
local macro_rules | `(tactic| walk_at "wh") => `(tactic| repeat (first | ((with_reducible apply W.hd_X); walk_at "hyp") | walk_at "w1"))
local macro_rules | `(tactic| walk_at "turnh") => `(tactic| (apply W.turn_s; (focus (walk_at "tg")); walk_at "wh"; done))
local macro_rules | `(tactic| walk_at "turnx") => `(tactic| (apply W.turn_xc; (focus (walk_at "tg")); (focus (walk_at "wx!"))))
theorem tape_is : F_law_tape = Mp.F_law_tape := rfl
theorem draw_is : F_law_draw = Mp.F_law_draw := rfl
theorem rule_is : F_law_rule = Lw.F_law_rule := rfl
theorem lplus_is : F_law_plus = Lw.F_law_plus := rfl
theorem lminus_is : F_law_minus = Lw.F_law_minus := rfl
theorem ltimes_is : F_law_times = Lw.F_law_times := rfl
theorem lless_is : F_law_less = Lw.F_law_less := rfl
theorem whole_is : F_law_whole = V.F_is_whole := rfl
open V (Any rat? pair? wh ahead behind okRow rowsDue kDue tDue sDue ruleDue ruleR pS tS)
theorem pair_is (l : List Nat) (ds : List D) (h : Hh) : callF l F_law_is_pair ds h = callF l V.F_is_pair ds h := same_call rfl l ds h
theorem rr_is (l : List Nat) (ds : List D) (h : Hh) : callF l F_right_rule ds h = callF l V.F_right_rule ds h := same_call rfl l ds h
theorem lt_cross {x y u v : Rat} (hy : 0 < y) (hv : 0 < v) : decide (x * v < u * y) = decide (x / y < u / v) := by
  have hx : x = x / y * y := (Rat.div_mul_cancel (by grind)).symm
  have hu : u = u / v * v := (Rat.div_mul_cancel (by grind)).symm
  generalize x / y = p at *
  generalize u / v = q at *
  subst hx hu
  have hp := Rat.mul_pos hy hv
  by_cases c : p < q
  · rw [decide_eq_true c]
    have := Rat.mul_pos (show 0 < q - p by grind) hp
    exact decide_eq_true (by grind)
  · rw [decide_eq_false c]
    have := Rat.mul_nonneg (show 0 ≤ p - q by grind) (show 0 ≤ y * v by grind)
    exact decide_eq_false (by grind)
section
variable {N : Nat} {ds : List D} {k : Nat} {l : List Nat} {h : Hh}
theorem ahead_at (h : ∀ j < k, okRow ds j = true) (hk : k ≤ ds.length) {j : Nat} {b : Row} (e : (ahead ds k)[j]? = some b) : ∀ hh, ixV hh (.tup ds) (.int (j : Int)) = .ok (rowD b) hh := fun hh => ixV_tup (by
  have hj : j < k := by
    have := (List.getElem?_eq_some_iff.mp e).1
    rwa [V.ahead_len h hk] at this
  have q := congrArg (fun xs => xs[j]?) (V.ahead_is h hk)
  simp only [List.getElem?_map, e, Option.map_some] at q
  rw [List.getElem?_take, if_pos hj] at q
  exact atD_some q)
theorem row_right (hN : N ≤ 1000) (a : ∀ d ∈ ds, Any N d) (hk : k < ds.length) (h : ∀ j < k, okRow ds j = true) {r : Row} (er : pair? (ds.getD k .non) = some r) : ∀ l hh, callF l F_law_row_right [.tup ds, .int (k : Int)] hh = .ok (.bl (behind (ahead ds k) r)) hh := fun l hh => by
  have ln := V.ahead_len h (by omega)
  have sz := V.ahead_sz a h (by omega)
  have up := V.ahead_up h (by omega)
  have at_ := fun {j : Nat} {b : Row} (e : (ahead ds k)[j]? = some b) => ahead_at h (by omega) e
  have sr : Sz N r.1 ∧ Sz N r.2 := by
    have z := V.getD_any a hk
    rw [V.pair?_some er] at z
    exact ⟨V.any_sz (z.at _ (by simp)), V.any_sz (z.at _ (by simp))⟩
  have ixk : ∀ hh, ixV hh (.tup ds) (.int (k : Int)) = .ok (rowD r) hh := fun hh => ixV_tup (by
    rw [show rowD r = ds.getD k .non from (V.pair?_some er).symm]
    exact atD_some (by simp [List.getD, hk]))
  have sq : ∀ hh, Mp.seqOf hh (rowD r) = some [ratD r.1, ratD r.2] := fun hh => rfl
  have lt := fun (p q : Rat) (sp : Sz N p) (sq : Sz N q) l hh => Lw.less_ok (l := l) (h := hh) sp sq (by omega)
  unfold behind
  generalize ahead ds k = rs at *
  generalize e : rs.reverse = vs at *
  have e' : rs = vs.reverse := by rw [← e, List.reverse_reverse]
  have mem : ∀ x ∈ vs, x ∈ rs := fun x hx => by rw [e']; simpa using hx
  clear e
  match vs, e', mem with
  | [], e', mem =>
    subst e'
    obtain rfl : k = 0 := by simpa using ln.symm
    have ez : ∀ hh, cop .eq hh (ratD r.1) (.tup [.int 0, .int 1]) = .ok (.bl (decide (r.1 = 0))) hh := fun hh => V.eq_rat hh r.1 0
    have p0 : ∀ hh, ixV hh (ratD r.2) (.int 0) = .ok (.int r.2.num) hh := fun hh => P.at20
    have n0 : decide ((0 : Int) ≤ r.2.num) = !decide (r.2 < 0) := by
      have : (0 ≤ r.2.num) ↔ ¬ r.2 < 0 := by rw [Rat.num_nonneg, Rat.not_lt]
      by_cases c : r.2 < 0
      · rw [decide_eq_true c, decide_eq_false (fun q => this.mp q c)]; rfl
      · rw [decide_eq_false c, decide_eq_true (this.mpr c)]; rfl
    simp only [← n0]
    simp only [F_law_row_right]
    clear lt at_ sz up a
    cases c : decide (r.1 = 0) <;> rw [c] at ez
    all_goals
      generalize ratD r.1 = R1 at *
      generalize ratD r.2 = R2 at *
      generalize rowD r = R' at *
      walk_at "all"
  | [b], e', mem =>
    subst e'
    obtain rfl : k = 1 := by simpa using ln.symm
    have sb := sz b (mem b (by simp))
    have ib := at_ (j := 0) (b := b) rfl
    have ib : ∀ hh, ixV hh (.tup ds) (.int (((1 : Nat) : Int) - 1)) = .ok (rowD b) hh := ib
    have b0 := V.row_0 b
    have b1 := V.row_1 b
    have l1 := lt b.1 r.1 sb.1 sr.1
    have l2 := lt b.2 r.2 sb.2 sr.2
    clear lt at_ sz up a
    simp only [F_law_row_right, lless_is]
    cases c1 : decide (b.1 < r.1) <;> rw [c1] at l1 <;> cases c2 : decide (b.2 < r.2) <;> rw [c2] at l2
    all_goals
      generalize ratD r.1 = R1 at *
      generalize ratD r.2 = R2 at *
      generalize ratD b.1 = B1 at *
      generalize ratD b.2 = B2 at *
      generalize rowD b = B at *
      generalize rowD r = R' at *
      walk_at "all"
  | b :: a' :: t, e', mem =>
    have hab := up a' b t rfl
    have sb := sz b (mem b (by simp))
    have sa := sz a' (mem a' (by simp))
    have lk : k = t.length + 2 := by rw [← ln, e']; simp
    have ib := at_ (j := t.length + 1) (b := b) (by rw [e']; simp)
    have ia := at_ (j := t.length) (b := a') (by rw [e']; simp)
    have ix1 : ∀ hh, ixV hh (.tup ds) (.int ((k : Int) - 1)) = .ok (rowD b) hh := by rw [show (k : Int) - 1 = ((t.length + 1 : Nat) : Int) by omega]; exact ib
    have ix2 : ∀ hh, ixV hh (.tup ds) (.int ((k : Int) - 2)) = .ok (rowD a') hh := by rw [show (k : Int) - 2 = ((t.length : Nat) : Int) by omega]; exact ia
    have ix3 : ∀ hh, ixV hh (.tup ds) (.int ((k : Int) - 2 + 1)) = .ok (rowD b) hh := by rw [show (k : Int) - 2 + 1 = (k : Int) - 1 by omega]; exact ix1
    have ix4 : ∀ hh, ixV hh (.tup ds) (.int ((k : Int) - 1 + 1)) = .ok (rowD r) hh := by rw [show (k : Int) - 1 + 1 = (k : Int) by omega]; exact ixk
    have k0 : ∀ hh, cop .eq hh (.int (k : Int)) (.int 0) = .ok (.bl false) hh := fun hh => by rw [cop_eq]; have : ((k : Int) == 0) = false := by rw [beq_eq_false_iff_ne]; omega
                                                                                              rw [this]
    have k1 : ∀ hh, cop .eq hh (.int (k : Int)) (.int 1) = .ok (.bl false) hh := fun hh => by rw [cop_eq]; have : ((k : Int) == 1) = false := by rw [beq_eq_false_iff_ne]; omega
                                                                                              rw [this]
    have b0 := V.row_0 b
    have b1 := V.row_1 b
    have a0 := V.row_0 a'
    have a1 := V.row_1 a'
    have r0 := V.row_0 r
    have r1 := V.row_1 r
    have l1 := lt b.1 r.1 sb.1 sr.1
    have l2 := lt b.2 r.2 sb.2 sr.2
    have m1 := fun l hh => Lw.minus_ok (l := l) (h := hh) sb.1 sa.1 (by omega)
    have m2 := fun l hh => Lw.minus_ok (l := l) (h := hh) sr.1 sb.1 (by omega)
    have m3 := fun l hh => Lw.minus_ok (l := l) (h := hh) sb.2 sa.2 (by omega)
    have m4 := fun l hh => Lw.minus_ok (l := l) (h := hh) sr.2 sb.2 (by omega)
    have q1 := sb.1.sub sa.1
    have q2 := sr.1.sub sb.1
    have q3 := sb.2.sub sa.2
    have q4 := sr.2.sub sb.2
    have t1 := fun l hh => Lw.times_ok (l := l) (h := hh) q4 q1 (by omega)
    have t2 := fun l hh => Lw.times_ok (l := l) (h := hh) q3 q2 (by omega)
    have l3 := fun l hh => Lw.less_ok (l := l) (h := hh) (q4.mul q1) (q3.mul q2) (by omega)
    have add : ∀ hh (i : Int), bop .add hh (.int i) (.int 1) = .ok (.int (i + 1)) hh := fun _ _ => rfl
    clear lt at_ sz up a ib ia
    simp only [F_law_row_right, lless_is, lminus_is, ltimes_is]
    by_cases c1 : b.1 < r.1
    · have cr : decide ((r.2 - b.2) * (b.1 - a'.1) < (b.2 - a'.2) * (r.1 - b.1)) = decide (slope b r < slope a' b) := lt_cross (by grind) (by grind)
      rw [cr] at l3
      rw [decide_eq_true c1] at l1 ⊢
      cases c2 : decide (b.2 < r.2) <;> rw [c2] at l2
      · generalize ratD r.1 = R1 at *
        generalize ratD r.2 = R2 at *
        generalize ratD b.1 = B1 at *
        generalize ratD b.2 = B2 at *
        generalize rowD b = B at *
        generalize rowD r = R' at *
        clear m1 m2 m3 m4 t1 t2 l3
        walk_at "all"
      · generalize ratD ((r.2 - b.2) * (b.1 - a'.1)) = X1 at *
        generalize ratD ((b.2 - a'.2) * (r.1 - b.1)) = X2 at *
        generalize ratD (b.1 - a'.1) = Y1 at *
        generalize ratD (r.1 - b.1) = Y2 at *
        generalize ratD (b.2 - a'.2) = Y3 at *
        generalize ratD (r.2 - b.2) = Y4 at *
        generalize ratD r.1 = R1 at *
        generalize ratD r.2 = R2 at *
        generalize ratD b.1 = B1 at *
        generalize ratD b.2 = B2 at *
        generalize ratD a'.1 = A1 at *
        generalize ratD a'.2 = A2 at *
        generalize rowD a' = A at *
        generalize rowD b = B at *
        generalize rowD r = R' at *
        generalize slope b r = s1 at *
        generalize slope a' b = s2 at *
        clear q1 q2 q3 q4 cr
        walk_at "all"
    · rw [decide_eq_false c1] at l1 ⊢
      generalize ratD r.1 = R1 at *
      generalize ratD r.2 = R2 at *
      generalize ratD b.1 = B1 at *
      generalize ratD b.2 = B2 at *
      generalize rowD b = B at *
      generalize rowD r = R' at *
      clear m1 m2 m3 m4 t1 t2 l3
      walk_at "all"
/-! what is due -/
theorem due_turn (hN : N ≤ 1000) (a : ∀ d ∈ ds, Any N d) (hk : k < ds.length) (h : ∀ j < k, okRow ds j = true) {s : Str} {σ : Sg} (hσ : σ = [some (.tup [.str s, .tup ds]), none]) {hh : Hh} :
    (okRow ds k = true → turnK [1] [1] (exL l F_law_due_b1) (.int (k : Int)) σ hh = .ok (.nx σ) hh) ∧ (okRow ds k = false → turnK [1] [1] (exL l F_law_due_b1) (.int (k : Int)) σ hh = .ok (.rt (.int (k : Int))) hh) := by
  subst hσ
  have ga := V.getD_any a hk
  have ip := V.is_pair_any ga
  have i1 : ∀ hh, ixV hh (.tup [.str s, .tup ds]) (.int 1) = .ok (.tup ds) hh := fun _ => rfl
  have ik : ∀ hh, ixV hh (.tup ds) (.int (k : Int)) = .ok (ds.getD k .non) hh := fun hh => ixV_tup (atD_some (by simp [List.getD, hk]))
  unfold okRow
  cases q : pair? (ds.getD k .non) with
  | none =>
    refine ⟨(fun e => nomatch e), fun _ => ?_⟩
    rw [q] at ip
    have ip : ∀ l h, callF l F_law_is_pair [ds.getD k .non] h = .ok (.bl false) h := fun l h => by rw [pair_is]; exact ip l h
    generalize ds.getD k .non = X at *
    simp only [F_law_due_b1]
    walk_at "turn"
  | some r =>
    rw [q] at ip
    have ip : ∀ l h, callF l F_law_is_pair [ds.getD k .non] h = .ok (.bl true) h := fun l h => by rw [pair_is]; exact ip l h
    have rr := row_right hN a hk h q
    generalize ds.getD k .non = X at *
    refine ⟨fun e => ?_, fun e => ?_⟩
    · rw [show behind (ahead ds k) r = true from e] at rr
      simp only [F_law_due_b1]
      walk_at "turn"
    · rw [show behind (ahead ds k) r = false from e] at rr
      simp only [F_law_due_b1]
      walk_at "turn"
def optI : Option Int → D
  | none => .non
  | some n => .int n
theorem due_loop (hN : N ≤ 1000) (a : ∀ d ∈ ds, Any N d) {hh : Hh} {s : Str} :
    forE l [1] F_law_due_b1 [1] [] (rg 0 (ds.length : Int)) [some (.tup [.str s, .tup ds]), none] hh = (match rowsDue ds with
      | none => .ok (.nx [some (.tup [.str s, .tup ds]), none]) hh
      | some k => R.ok (.rt (.int (k : Int))) hh) := by
  rw [rg_range, forE_first (fun (k : Nat) => D.int (k : Int)) (okRow ds) (fun k => .rt (.int (k : Int))) (fun _ => rfl) _ (fun k hk h o => (due_turn hN a hk h rfl).1 o) (fun k hk h o => (due_turn hN a hk h rfl).2 o)]
  rfl
theorem due_ok (hN : N ≤ 1000) {X : D} (a : Any N X) : ∀ l h, callF l F_law_due [X] h = .ok (optI (ruleDue X)) h := fun l h => by
  have bad : ∀ Y : D, ruleDue Y = some (-1) → R.ok (optI (ruleDue Y)) h = R.ok (D.int (-1)) h := fun Y e => by rw [e]; rfl
  cases a with
  | non => simp only [F_law_due]; refine Eq.trans ?_ (bad _ rfl).symm; walk_at "all"
  | bl b => simp only [F_law_due]; refine Eq.trans ?_ (bad _ rfl).symm; walk_at "all"
  | int q => simp only [F_law_due]; refine Eq.trans ?_ (bad _ rfl).symm; walk_at "all"
  | str q => simp only [F_law_due]; refine Eq.trans ?_ (bad _ rfl).symm; walk_at "all"
  | lst q => simp only [F_law_due]; refine Eq.trans ?_ (bad _ rfl).symm; walk_at "all"
  | @tup es q =>
    match es, q with
    | [], q => simp only [F_law_due]; refine Eq.trans ?_ (bad _ rfl).symm; walk_at "all"
    | [x], q => simp only [F_law_due]; refine Eq.trans ?_ (bad _ (by cases x <;> rfl)).symm; walk_at "all"
    | x :: y :: z :: r, q =>
      have ln : ∀ hh, blt .len hh [.tup (x :: y :: z :: r)] = .ok (.int ((r.length : Int) + 3)) hh := fun hh => rfl
      have n2 : ∀ hh, cop .ne hh (.int ((r.length : Int) + 3)) (.int 2) = .ok (.bl true) hh := fun hh => by
        rw [cop_ne]
        have : ((r.length : Int) + 3 == 2) = false := by rw [beq_eq_false_iff_ne]; omega
        rw [this]; rfl
      refine Eq.trans ?_ (bad _ (by cases x <;> rfl)).symm
      simp only [F_law_due]
      walk_at "all"
    | [x, y], q =>
      have ax := q x (by simp)
      have ay := q y (by simp)
      have i0 : ∀ hh, ixV hh (.tup [x, y]) (.int 0) = .ok x hh := fun _ => rfl
      have i1 : ∀ hh, ixV hh (.tup [x, y]) (.int 1) = .ok y hh := fun _ => rfl
      have wy := V.whole_any ay
      cases ax with
      | non => refine Eq.trans ?_ (bad _ rfl).symm; simp only [F_law_due]; walk_at "all"
      | bl b => refine Eq.trans ?_ (bad _ rfl).symm; simp only [F_law_due]; walk_at "all"
      | int _ => refine Eq.trans ?_ (bad _ rfl).symm; simp only [F_law_due]; walk_at "all"
      | tup _ => refine Eq.trans ?_ (bad _ rfl).symm; simp only [F_law_due]; walk_at "all"
      | lst _ => refine Eq.trans ?_ (bad _ rfl).symm; simp only [F_law_due]; walk_at "all"
      | @str s so =>
        have e1 : ∀ hh, cop .eq hh (.str s) (.str (Str.ofString "power")) = .ok (.bl (s == pS)) hh := fun hh => cop_eqs hh so (strOk_of _)
        have e2 : ∀ hh, cop .ne hh (.str s) (.str (Str.ofString "table")) = .ok (.bl (!(s == tS))) hh := fun hh => cop_nes hh so (strOk_of _)
        have is : ∀ hh, isinV [.str] hh (.str s) = .ok (.bl true) hh := fun _ => rfl
        by_cases c1 : s = pS
        · have b1 : (s == pS) = true := by rw [c1]; simp
          have b2 : (s == tS) = false := by rw [c1]; decide +kernel
          rw [b1] at e1
          rw [b2] at e2
          cases hy : wh y with
          | false =>
            rw [hy] at wy
            refine Eq.trans ?_ (bad _ (by rw [V.ruleDue_s]; unfold sDue; rw [if_pos c1]; cases ay <;> first | rfl | cases hy)).symm
            simp only [F_law_due, whole_is]
            walk_at "all"
          | true =>
            rw [hy] at wy
            obtain ⟨m, rfl⟩ : ∃ m, y = .int m := by cases ay <;> first | exact ⟨_, rfl⟩ | cases hy
            have ed : ruleDue (.tup [.str s, .int m]) = if 2 ≤ m ∧ m ≤ 4 then none else some (-1) := by rw [V.ruleDue_s]; unfold sDue; rw [if_pos c1]; rfl
            rw [ed]
            simp only [F_law_due, whole_is]
            by_cases c2 : m < 2
            · rw [if_neg (by omega)]
              show _ = R.ok (D.int (-1)) h
              walk_at "all"
            · by_cases c3 : 4 < m
              · rw [if_neg (by omega)]
                show _ = R.ok (D.int (-1)) h
                walk_at "all"
              · rw [if_pos (by omega)]
                show _ = R.ok D.non h
                walk_at "all"
        · have b1 : (s == pS) = false := by rw [beq_eq_false_iff_ne]; exact c1
          rw [b1] at e1
          by_cases c2 : s = tS
          · have b2 : (s == tS) = true := by rw [c2]; simp
            rw [b2] at e2
            have it := V.is_tup ay
            cases ay with
            | non => refine Eq.trans ?_ (bad _ (by rw [V.ruleDue_s]; unfold sDue; rw [if_neg c1, if_pos c2]; rfl)).symm; simp only [F_law_due]; walk_at "all"
            | bl b => refine Eq.trans ?_ (bad _ (by rw [V.ruleDue_s]; unfold sDue; rw [if_neg c1, if_pos c2]; rfl)).symm; simp only [F_law_due]; walk_at "all"
            | int _ => refine Eq.trans ?_ (bad _ (by rw [V.ruleDue_s]; unfold sDue; rw [if_neg c1, if_pos c2]; rfl)).symm; simp only [F_law_due]; walk_at "all"
            | str _ => refine Eq.trans ?_ (bad _ (by rw [V.ruleDue_s]; unfold sDue; rw [if_neg c1, if_pos c2]; rfl)).symm; simp only [F_law_due]; walk_at "all"
            | lst _ => refine Eq.trans ?_ (bad _ (by rw [V.ruleDue_s]; unfold sDue; rw [if_neg c1, if_pos c2]; rfl)).symm; simp only [F_law_due]; walk_at "all"
            | @tup ds ha =>
              have ed : ruleDue (.tup [.str s, .tup ds]) = if 2 ≤ ds.length ∧ ds.length ≤ 12 then (rowsDue ds).map Int.ofNat else some (-1) := by rw [V.ruleDue_s]; unfold sDue; rw [if_neg c1, if_pos c2]; rfl
              rw [ed]
              have it : ∀ hh, isinV [.tuple] hh (.tup ds) = .ok (.bl true) hh := it
              have src : ∀ hh, srcOf hh (.tup ds) = some (ds, []) := fun _ => rfl
              by_cases c3 : 2 ≤ ds.length ∧ ds.length ≤ 12
              · rw [if_pos c3]
                have nin : ∀ hh, blt (.inR true true) hh [.int (ds.length : Int), .int 2, .int 13] = .ok (.bl false) hh := fun hh => by
                  rw [W.blt_inR2, decide_eq_true (by omega)]; rfl
                have rk : rgOk 0 (ds.length : Int) = true := rgOk_nat (by omega)
                have lp := fun l hh => due_loop (l := l) (hh := hh) (s := s) hN ha
                cases f : rowsDue ds with
                | none =>
                  rw [f] at lp
                  dsimp only at lp
                  show _ = R.ok D.non h
                  simp only [F_law_due]
                  walk_at "all"
                | some k =>
                  rw [f] at lp
                  dsimp only at lp
                  show _ = R.ok (D.int (k : Int)) h
                  simp only [F_law_due]
                  walk_at "all"
              · rw [if_neg c3]
                have nin : ∀ hh, blt (.inR true true) hh [.int (ds.length : Int), .int 2, .int 13] = .ok (.bl true) hh := fun hh => by
                  rw [W.blt_inR2, decide_eq_false (by omega)]; rfl
                show _ = R.ok (D.int (-1)) h
                simp only [F_law_due]
                walk_at "all"
          · have b2 : (s == tS) = false := by rw [beq_eq_false_iff_ne]; exact c2
            rw [b2] at e2
            refine Eq.trans ?_ (bad _ (by rw [V.ruleDue_s]; unfold sDue; rw [if_neg c1, if_neg c2])).symm
            simp only [F_law_due]
            walk_at "all"
theorem told_ok (hN : N ≤ 1000) {X : D} (a : Any N X) : ∀ l h, callF l F_law_told [X] h = .ok (optI (ruleDue X)) h := fun l h => by
  have rr := V.right_rule_ok hN a
  have e : ∀ l h, callF l F_right_rule [X] h = ruleR h (ruleDue X) := fun l h => by rw [rr_is]; exact rr l h
  cases f : ruleDue X with
  | none =>
    rw [f] at e
    have e : ∀ l h, callF l F_right_rule [X] h = .ok (.bl true) h := e
    show _ = R.ok D.non h
    simp only [F_law_told]
    walk_at "all"
  | some n =>
    rw [f] at e
    have e : ∀ l h, callF l F_right_rule [X] h = .ex "NoRule" [.int n] h := e
    have i1 : ∀ hh, isinV [.own "NoRule"] hh (.exc "NoRule" [.int n]) = .ok (.bl true) hh := fun hh => by rw [W.own_is]; simp [excSub]
    have i2 : ∀ hh, isinV [.own "ValueError"] hh (.exc "NoRule" [.int n]) = .ok (.bl true) hh := fun hh => by rw [W.own_is]; simp [excSub, above]
    have i3 : ∀ hh, isinV [.own "NoPlan", .own "NoSheet", .own "NoSpeed"] hh (.exc "NoRule" [.int n]) = .ok (.bl false) hh := fun hh => by simp [isinV, isAny, isTy, excSub, above]
    show _ = R.ok (D.int n) h
    simp only [F_law_told]
    walk_at "all"
end
open V (Any rat? pair? wh ahead behind okRow rowsDue kDue tDue sDue ruleDue ruleR pS tS Tg tg_int tg_non tg_bl tg_str tg_two tg_rat tg_pick)
theorem due_small {X : D} {n : Int} (e : ruleDue X = some n) : n.natAbs < 64 := by
  unfold ruleDue at e
  split at e
  · rename_i s x
    unfold sDue at e
    split at e
    · unfold kDue at e
      split at e
      · split at e <;> cases e; decide
      · cases e; decide
    · split at e
      · unfold tDue at e
        split at e
        · rename_i ds
          split at e
          · rename_i c
            cases f : rowsDue ds with
            | none => rw [f] at e; cases e
            | some k =>
              rw [f] at e
              cases e
              have := List.mem_of_find?_eq_some f
              rw [List.mem_range] at this
              show (k : Int).natAbs < 64
              omega
          · cases e; decide
        · cases e; decide
      · cases e; decide
  · cases e; decide
theorem opt_rp (o : Option Int) (h : ∀ n, o = some n → n.natAbs < 64) : ∃ s : Str, (∀ hh, blt .repr hh [optI o] = .ok (.str s) hh) ∧ ∀ hh, cop .ne hh (.str s) (.str s) = .ok (.bl false) hh := by
  cases o with
  | none => exact ⟨_, fun hh => repr_of (P := .none) rfl (Rp.non.mono (Nat.le_refl _) (by decide)) (by decide), ne_self Rp.non⟩
  | some n =>
    have r : Rp (.int n) 7 0 := Rp.int (h n rfl) (by decide) (by decide)
    exact ⟨_, fun hh => repr_of (P := .int n) rfl (r.mono (Nat.le_refl _) (by decide)) (by decide), ne_self r⟩
section
variable {l : List Nat} {h : Hh} {n k : Nat}
theorem b1_ok {X : D} (t : Tg 300 500000 5 X) {A B C E : Option D} : turnK [4] [4, 5] (exL l F_law_b1) X [A, B, C, E, none, none, none] h = .ok (.nx [A, B, C, E, none, none, none]) h := by
  have e1 := told_ok (by decide) t.a
  have e2 := due_ok (by decide) t.a
  obtain ⟨s, e3, e4⟩ := opt_rp (ruleDue X) fun n e => due_small e
  obtain ⟨P, r, e⟩ := t.p
  have e5 := fun hh => repr_of (h := hh) (e hh) (r.mono (Nat.le_refl _) (by decide)) (by decide)
  have e6 := ne_self r
  generalize optI (ruleDue X) = O at *
  generalize P.shown = S at *
  simp only [F_law_b1]
  walk_at "turn"
end
open V (Any Tg tg_int tg_non tg_bl tg_str tg_two tg_rat tg_pick)
theorem tg_row {r : Row} (s : Sz 250 r.1 ∧ Sz 250 r.2) : Tg 300 2000 2 (rowD r) := Tg.tup (n := 509) (d := 1) (tg_two (tg_rat s.1 (by decide) (by decide) (by decide)) (tg_rat s.2 (by decide) (by decide) (by decide))) (by simp)
theorem tg_i {i : Int} (h : i.natAbs < 2 ^ 64) : Tg 300 65 0 (.int i) := tg_int h (by decide) (by decide) (by decide)
def little : Rat := ⟨1, 1000000, by decide, by decide⟩
section
variable {l : List Nat} {h : Hh} {n k : Nat}
theorem sl_to {α : Type} (e : α → D) (xs : List α) (j : Nat) (hh : Hh) : slV hh (.tup (xs.map e)) none (some (j : Int)) = .ok (.tup ((xs.take j).map e)) hh := by
  show R.ok (D.tup (cut (xs.map e) none (some (j : Int)))) hh = _
  rw [cut_take, List.map_take]
theorem sl_from {α : Type} (e : α → D) (xs : List α) (j : Nat) (hh : Hh) : slV hh (.tup (xs.map e)) (some (j : Int)) none = .ok (.tup ((xs.drop j).map e)) hh := by
  show R.ok (D.tup (cut (xs.map e) (some (j : Int)) none)) hh = _
  rw [cut_lo, List.map_drop]
theorem sl_one {α : Type} (e : α → D) (xs : List α) {j : Nat} (hj : j < xs.length) (hh : Hh) : slV hh (.tup (xs.map e)) (some (j : Int)) (some ((j : Int) + 1)) = .ok (.tup (((xs.drop j).take 1).map e)) hh := by
  show R.ok (D.tup (cut (xs.map e) (some (j : Int)) (some ((j : Int) + 1)))) hh = _
  rw [show (j : Int) + 1 = ((j + 1 : Nat) : Int) by omega, cut_mid _ (by omega) (by rw [List.length_map]; omega), show j + 1 - j = 1 by omega, List.map_take, List.map_drop]
theorem add_m {α : Type} (e : α → D) (xs ys : List α) (hl : xs.length + ys.length ≤ 1000) (hh : Hh) : bop .add hh (.tup (xs.map e)) (.tup (ys.map e)) = .ok (.tup ((xs ++ ys).map e)) hh := W.add_tup (by rw [List.length_map, List.length_map]; omega) (by rw [List.map_append])
theorem row_before {rows : List Row} {j : Nat} (hj : j < rows.length) : ∃ r ∈ rows, ∀ hh, ixV hh (rowsD rows) (.int ((j : Int) - 1)) = .ok (rowD r) hh := by
  by_cases j0 : j = 0
  · subst j0
    refine ⟨rows[rows.length - 1], List.getElem_mem _, fun hh => ixV_tup ?_⟩
    rw [show ((0 : Nat) : Int) - 1 = -((1 : Nat) : Int) from rfl, V.atD_neg (by decide) (by rw [List.length_map]; omega), List.length_map, List.getElem?_map, List.getElem?_eq_getElem (by omega)]
    rfl
  · refine ⟨rows[j - 1], List.getElem_mem _, fun hh => ixV_tup ?_⟩
    rw [show (j : Int) - 1 = ((j - 1 : Nat) : Int) by omega]
    exact atD_some (by rw [List.getElem?_map, List.getElem?_eq_getElem (by omega)]; rfl)
theorem bent_row {rows : List Row} (tb : Tab rows) {j : Nat} (hj : j < rows.length) (t : IsTape h n k) (hk : k < 2 ^ 40) :
    ∃ X ds, Tg 300 6000 3 X ∧ callF l F_law_bent_row [.ref n, rowsD rows, .int (j : Int)] h = .ok X (h.set n (.lst ds)) ∧ IsTape (h.set n (.lst ds)) n (k + 1) := by
  obtain ⟨v, d1, v0, v1, e1, t1⟩ := draw_ok (l := h.length :: l) t hk (m := 13) (by decide) (by decide)
  obtain ⟨p, hp, e2⟩ := row_before hj
  have er : ∀ hh, ixV hh (rowsD rows) (.int (j : Int)) = .ok (rowD rows[j]) hh := fun hh => ix_rows (List.getElem?_eq_getElem hj)
  have sr := tb.sz _ (List.getElem_mem hj)
  have sp := tb.sz _ hp
  generalize rows[j] = r at *
  have sl : Sz 20 little := ⟨by decide, by decide⟩
  have a1 := fun l hh => Lw.plus_ok (l := l) (h := hh) sr.1 sl (by decide)
  have a2 := fun l hh => Lw.minus_ok (l := l) (h := hh) sr.2 sl (by decide)
  have a3 := fun l hh => Lw.plus_ok (l := l) (h := hh) sr.2 sl (by decide)
  have z1 : Sz 250 (r.1 + little) := (sr.1.add sl).mono (by decide)
  have z2 : Sz 250 (r.2 - little) := (sr.2.sub sl).mono (by decide)
  have z3 : Sz 250 (r.2 + little) := (sr.2.add sl).mono (by decide)
  have s1 := sr.1.mono (m := 250) (by decide)
  have s2 := sr.2.mono (m := 250) (by decide)
  have q1 := sp.1.mono (m := 250) (by decide)
  have q2 := sp.2.mono (m := 250) (by decide)
  have sq : ∀ hh, Mp.seqOf hh (rowD r) = some [ratD r.1, ratD r.2] := fun hh => rfl
  have pw6 : ∀ hh, bop .pow hh (.int 10) (.int 6) = .ok (.int 1000000) hh := fun hh => rfl
  have li : ∀ {X : D} {hh : Hh}, (D.tup [.int 1, .int 1000000]) = ratD little := fun {_ _} => rfl
  have p0 := V.row_0 p
  have p1 := V.row_1 p
  have i0 : ∀ hh, ixV hh (ratD r.2) (.int 0) = .ok (.int r.2.num) hh := fun hh => P.at20
  have i1 : ∀ hh, ixV hh (ratD r.2) (.int 1) = .ok (.int r.2.den) hh := fun hh => P.at21
  have m0 : ∀ hh, bop .mul hh (.int 2) (.int r.2.num) = .ok (.int (2 * r.2.num)) hh := fun hh => bop_mul hh (by decide) (smN s2.1 (by decide))
  have m1 : ∀ hh, bop .mul hh (.int 2) (.int (r.2.den : Int)) = .ok (.int (2 * (r.2.den : Int))) hh := fun hh => bop_mul hh (by decide) (smN (n := 250) (by simpa using s2.2) (by decide))
  have tr : ∀ {q : Rat}, Sz 250 q → Tg 300 520 1 (ratD q) := fun s => (tg_rat s (by decide) (by decide) (by decide)).mono (by decide) (by decide)
  have t2 : Tg 300 520 1 (.tup [.int (2 * r.2.num), .int (2 * (r.2.den : Int))]) := Tg.tup (n := 252) (d := 0) (tg_two (tg_int (n := 251) (by have := s2.1; rw [Int.natAbs_mul]; show 2 * r.2.num.natAbs < 2 ^ 251; omega) (by decide) (by decide) (by decide)) (tg_int (n := 251) (by have := s2.2; omega) (by decide) (by decide) (by decide))) (by simp)
  have tw : ∀ {a b : D}, Tg 300 520 1 a → Tg 300 520 1 b → Tg 300 6000 3 (.tup [a, b]) := fun ha hb => (Tg.tup (n := 520) (d := 1) (m := 2000) (tg_two ha hb) (by simp)).mono (by decide) (by decide)
  obtain ⟨X, hX, e3⟩ := tg_pick (N := 300) (n := 6000) (d := 3) (ds := [.tup [ratD (r.1 + little), ratD r.2], .tup [ratD r.1, ratD (r.2 - little)], .tup [ratD r.1, ratD (r.2 + little)], rowD p, .tup [ratD p.1, ratD r.2], .tup [ratD r.1, ratD p.2], .lst [ratD r.1, ratD r.2], .tup [ratD r.1], .non, .tup [ratD r.1, .int r.2.num], .tup [ratD r.1, .tup [.int (2 * r.2.num), .int (2 * (r.2.den : Int))]], .tup [.tup [.bl true, .int 1], ratD r.2], .tup [ratD r.2, ratD r.1]]) v0 (by simpa using v1) (fun x hx => by
    simp only [List.mem_cons, List.not_mem_nil, or_false] at hx
    rcases hx with rfl | rfl | rfl | rfl | rfl | rfl | rfl | rfl | rfl | rfl | rfl | rfl | rfl
    · exact tw (tr z1) (tr s2)
    · exact tw (tr s1) (tr z2)
    · exact tw (tr s1) (tr z3)
    · exact tw (tr q1) (tr q2)
    · exact tw (tr q1) (tr s2)
    · exact tw (tr s1) (tr q2)
    · exact (Tg.lst (n := 520) (d := 1) (m := 2000) (tg_two (tr s1) (tr s2)) (by simp)).mono (by decide) (by decide)
    · exact (Tg.tup (n := 520) (d := 1) (m := 2000) (fun x hx => by rw [List.mem_singleton.mp hx]; exact tr s1) (by simp)).mono (by decide) (by decide)
    · exact tg_non.mono (by decide) (by decide)
    · exact tw (tr s1) ((tg_int s2.1 (by decide) (by decide) (by decide)).mono (by decide) (by decide))
    · exact tw (tr s1) t2
    · exact tw ((Tg.tup (n := 65) (d := 0) (m := 520) (tg_two ((tg_bl true).mono (by decide) (by decide)) (tg_i (by decide))) (by simp))) (tr s2)
    · exact tw (tr s2) (tr s1))
  have u := hX.u
  refine ⟨X, d1, hX, ?_, t1⟩
  have li : D.tup [.int 1, .int 1000000] = ratD little := rfl
  rw [← li] at a1 a2 a3
  rw [show rowD p = .tup [ratD p.1, ratD p.2] from rfl] at e2 p0 p1 e3
  generalize ratD (r.1 + little) = Y1 at *
  generalize ratD (r.2 - little) = Y2 at *
  generalize ratD (r.2 + little) = Y3 at *
  generalize ratD p.1 = P1 at *
  generalize ratD p.2 = P2 at *
  generalize ratD r.1 = R1 at *
  generalize ratD r.2 = R2 at *
  generalize rowD r = R' at *
  generalize rowsD rows = RS at *
  generalize 2 * r.2.num = N1 at *
  generalize 2 * (r.2.den : Int) = N2 at *
  generalize r.2.num = N3 at *
  generalize (r.2.den : Int) = N4 at *
  clear tr tw t2 z1 z2 z3 s1 s2 q1 q2 sr sp sl hX
  simp only [F_law_bent_row, draw_is, lplus_is, lminus_is]
  walk_at "all"
end
open V (Any Tg tg_int tg_non tg_bl tg_str tg_two tg_rat tg_pick)
section
variable {l : List Nat} {h : Hh} {n k : Nat}
theorem add_d (A B : List D) (hl : A.length + B.length ≤ 1000) (hh : Hh) : bop .add hh (.tup A) (.tup B) = .ok (.tup (A ++ B)) hh := W.add_tup (by omega) rfl
abbrev Wd (s : String) : D := .str (Str.ofString s)
theorem tg_pair {a b : D} (ha : Tg 300 60000 3 a) (hb : Tg 300 60000 3 b) : Tg 300 500000 5 (.tup [a, b]) := (Tg.tup (n := 60000) (d := 3) (m := 200000) (tg_two ha hb) (by simp)).mono (by decide) (by decide)
theorem tg_w (s : String) (h : (Str.ofString s).length ≤ 10) : Tg 300 60000 3 (Wd s) := (tg_str s h).mono (by decide) (by decide)
theorem tg_i2 {i : Int} (h : i.natAbs < 2 ^ 64) : Tg 300 60000 3 (.int i) := (tg_i h).mono (by decide) (by decide)
theorem way0 {S Y : D} (hS : Tg 300 60000 3 S) (hY : Tg 300 60000 3 Y) (t : IsTape h n k) (hk : k + 2 < 2 ^ 40) {v : Int} {d0 : List D} (e0 : callF (h.length :: l) Mp.F_law_draw [.ref n, .int 8] h = .ok (.int v) (h.set n (.lst d0))) (t0 : IsTape (h.set n (.lst d0)) n (k + 1)) (c : v = 0) :
    ∃ X ds, Tg 300 500000 5 X ∧ callF l F_law_bent [.ref n, .tup [S, Y]] h = .ok X (h.set n (.lst ds)) ∧ IsTape (h.set n (.lst ds)) n (k + 2) := by
  obtain ⟨w, d1, w0, w1, e1, t1⟩ := draw_ok (l := h.length :: l) t0 (by omega) (m := 12) (by decide) (by decide)
  rw [List.set_set] at e1 t1
  have lf : ∀ {a b : D}, Tg 300 60000 3 a → Tg 300 60000 3 b → Tg 300 500000 5 (.tup [a, b]) := tg_pair
  obtain ⟨X, hX, e3⟩ := tg_pick (N := 300) (n := 500000) (d := 5) (ds := [.lst [S, Y], .tup [S, Y, .tup []], .tup [S], .non, .tup [Wd "Power", .int 2], .tup [.int 2, .int 2], .tup [Wd "power", .int 1], .tup [Wd "power", .int 5], .tup [Wd "power", .bl true], .tup [Wd "power", .tup [.int 2, .int 1]], .tup [Wd "table", .int 2], .tup [Wd "table", .tup []]]) w0 (by simpa using w1) (fun x hx => by
    simp only [List.mem_cons, List.not_mem_nil, or_false] at hx
    have te : Tg 300 60000 3 (.tup []) := (Tg.tup (n := 0) (d := 0) (m := 3) (fun x hx => by cases hx) (by simp)).mono (by decide) (by decide)
    rcases hx with rfl | rfl | rfl | rfl | rfl | rfl | rfl | rfl | rfl | rfl | rfl | rfl
    · exact (Tg.lst (n := 60000) (d := 3) (m := 200000) (tg_two hS hY) (by simp)).mono (by decide) (by decide)
    · exact (Tg.tup (n := 60000) (d := 3) (m := 200000) (fun x hx => by
        simp only [List.mem_cons, List.not_mem_nil, or_false] at hx
        rcases hx with rfl | rfl | rfl
        · exact hS
        · exact hY
        · exact te) (by simp)).mono (by decide) (by decide)
    · exact (Tg.tup (n := 60000) (d := 3) (m := 200000) (fun x hx => by rw [List.mem_singleton.mp hx]; exact hS) (by simp)).mono (by decide) (by decide)
    · exact tg_non.mono (by decide) (by decide)
    · exact lf (tg_w _ (by decide)) (tg_i2 (by decide))
    · exact lf (tg_i2 (by decide)) (tg_i2 (by decide))
    · exact lf (tg_w _ (by decide)) (tg_i2 (by decide))
    · exact lf (tg_w _ (by decide)) (tg_i2 (by decide))
    · exact lf (tg_w _ (by decide)) ((tg_bl true).mono (by decide) (by decide))
    · exact lf (tg_w _ (by decide)) ((Tg.tup (n := 65) (d := 0) (m := 200) (tg_two (tg_i (by decide)) (tg_i (by decide))) (by simp)).mono (by decide) (by decide))
    · exact lf (tg_w _ (by decide)) (tg_i2 (by decide))
    · exact lf (tg_w _ (by decide)) te)
  have u := hX.u
  have bl : ∀ hh, blt .list hh [.tup [S, Y]] = .ok (.lst [S, Y]) hh := fun _ => rfl
  have ad : ∀ hh, bop .add hh (.tup [S, Y]) (.tup [.tup []]) = .ok (.tup [S, Y, .tup []]) hh := fun hh => add_d [S, Y] [.tup []] (by simp) hh
  have sl : ∀ hh, slV hh (.tup [S, Y]) none (some 1) = .ok (.tup [S]) hh := fun _ => rfl
  refine ⟨X, d1, hX, ?_, t1⟩
  simp only [F_law_bent, draw_is]
  walk_at "all"
theorem bent_ok {ρ : Rule} (ok : ρ.Ok) (t : IsTape h n k) (hk : k + 4 < 2 ^ 40) :
    ∃ X ds, Tg 300 500000 5 X ∧ callF l F_law_bent [.ref n, ρ.D] h = .ok X (h.set n (.lst ds)) ∧ IsTape (h.set n (.lst ds)) n (k + 4) := by
  obtain ⟨v, d0, v0, v1, e0, t0⟩ := draw_ok (l := h.length :: l) t (by omega) (m := 8) (by decide) (by decide)
  cases ρ with
  | pw m =>
    have om : 2 ≤ m ∧ m ≤ 4 := ok
    have tm : Tg 300 60000 3 (.int (m : Int)) := tg_i2 (by omega)
    by_cases c : v = 0
    · obtain ⟨X, ds, hX, e, t⟩ := way0 (l := l) (tg_w "power" (by decide)) tm t (by omega) e0 t0 c
      exact ⟨X, ds, hX, e, t.mono (by omega)⟩
    · obtain ⟨w, d1, w0, w1, e1, t1⟩ := draw_ok (l := h.length :: l) t0 (by omega) (m := 3) (by decide) (by decide)
      rw [List.set_set] at e1 t1
      obtain ⟨X, hX, e3⟩ := tg_pick (N := 300) (n := 60000) (d := 3) (ds := [Wd "table", Wd "power", Wd "step"]) w0 (by simpa using w1) (fun x hx => by
        simp only [List.mem_cons, List.not_mem_nil, or_false] at hx
        rcases hx with rfl | rfl | rfl <;> exact tg_w _ (by decide))
      have hX2 := tg_pair hX tm
      have u := hX2.u
      have p0 := fun hh => pw0 (k := m) (hh := hh)
      have p1 := fun hh => pw1 (k := m) (hh := hh)
      have pp := pp_eq
      refine ⟨_, d1, hX2, ?_, t1.mono (by omega)⟩
      generalize (Rule.pw m).D = RD at *
      simp only [F_law_bent, draw_is]
      walk_at "all"
  | tb rows =>
    have tb : Tab rows := ok
    have ll := tb.len
    have ll' := tb.len'
    have mem : ∀ r ∈ rows, Tg 300 2000 2 (rowD r) := fun r hr => tg_row ⟨(tb.sz r hr).1.mono (by decide), (tb.sz r hr).2.mono (by decide)⟩
    have tr : ∀ A : List D, A.length ≤ 25 → (∀ x ∈ A, Tg 300 6000 3 x) → Tg 300 200000 4 (.tup A) := fun A hA hx => Tg.tup (n := 6000) (d := 3) (m := 200000) hx (Nat.le_trans (Nat.add_le_add_right (Nat.mul_le_mul_left _ hA) _) (by decide))
    have sub : ∀ R : List Row, (∀ r ∈ R, r ∈ rows) → ∀ x ∈ R.map rowD, Tg 300 6000 3 x := fun R hR x hx => by
      obtain ⟨r, hr, rfl⟩ := List.mem_map.mp hx
      exact (mem r (hR r hr)).mono (by decide) (by decide)
    have tw : Tg 300 200000 4 (Wd "table") := (tg_w _ (by decide)).mono (by decide) (by decide)
    have both : ∀ A : D, Tg 300 200000 4 A → Tg 300 500000 5 (.tup [Wd "table", A]) := fun A hA => Tg.tup (n := 200000) (d := 4) (m := 500000) (tg_two tw hA) (by simp)
    obtain ⟨a, d1, a0, a1, e1, t1⟩ := draw_ok (l := h.length :: l) t0 (by omega) (m := (rows.length : Int)) (by omega) (by omega)
    rw [List.set_set] at e1 t1
    obtain ⟨j, rfl⟩ : ∃ j : Nat, a = j := ⟨a.toNat, by omega⟩
    have hj : j < rows.length := by omega
    have g0 := fun hh => tab0 (rows := rows) (hh := hh)
    have g1 := fun hh => tab1 (rows := rows) (hh := hh)
    have tp := tp_eq
    have lr := fun hh => len_rows (rows := rows) (hh := hh)
    have s1 : ∀ hh, slV hh (rowsD rows) none (some (j : Int)) = .ok (.tup ((rows.take j).map rowD)) hh := sl_to rowD rows j
    have s2 : ∀ hh, slV hh (rowsD rows) (some ((j : Int) + 1)) none = .ok (.tup ((rows.drop (j + 1)).map rowD)) hh := fun hh => by
      have := sl_from rowD rows (j + 1) hh
      rw [show ((j + 1 : Nat) : Int) = (j : Int) + 1 by omega] at this
      exact this
    have s3 : ∀ hh, slV hh (rowsD rows) (some (j : Int)) none = .ok (.tup ((rows.drop j).map rowD)) hh := sl_from rowD rows j
    have s4 : ∀ hh, slV hh (rowsD rows) (some (j : Int)) (some ((j : Int) + 1)) = .ok (.tup (((rows.drop j).take 1).map rowD)) hh := sl_one rowD rows hj
    have l1 := List.length_take_le j rows
    have l2 := List.length_drop (l := rows) (i := j + 1)
    have l3 := List.length_drop (l := rows) (i := j)
    have l4 := List.length_take_le 1 (rows.drop j)
    by_cases c0 : v = 0
    · obtain ⟨X, ds, hX, e, t⟩ := way0 (l := l) (S := Wd "table") (Y := rowsD rows) (tg_w "table" (by decide)) ((Tg.tup (n := 2000) (d := 2) (m := 60000) (fun x hx => by
        obtain ⟨r, hr, rfl⟩ := List.mem_map.mp hx
        exact mem r hr) (by rw [List.length_map]; omega))) t (by omega) e0 t0 c0
      exact ⟨X, ds, hX, e, t.mono (by omega)⟩
    by_cases c1 : v = 1
    · obtain ⟨w, d2, w0, w1, e2, t2⟩ := draw_ok (l := h.length :: l) t0 (by omega) (m := 4) (by decide) (by decide)
      rw [List.set_set] at e2 t2
      have r1 : ∀ hh, slV hh (rowsD rows) none (some 1) = .ok (.tup ((rows.take 1).map rowD)) hh := sl_to rowD rows 1
      have r2 : ∀ hh, slV hh (rowsD rows) (some 1) none = .ok (.tup ((rows.drop 1).map rowD)) hh := sl_from rowD rows 1
      have r3 : ∀ hh, bop .add hh (rowsD rows) (rowsD rows) = .ok (.tup ((rows ++ rows).map rowD)) hh := add_m rowD rows rows (by omega)
      have r4 : ∀ hh, blt .list hh [rowsD rows] = .ok (.lst (rows.map rowD)) hh := fun _ => rfl
      obtain ⟨X, hX, e3⟩ := tg_pick (N := 300) (n := 200000) (d := 4) (ds := [.lst (rows.map rowD), .tup ((rows.take 1).map rowD), .tup ((rows ++ rows).map rowD), .tup ((rows.drop 1).map rowD)]) w0 (by simpa using w1) (fun x hx => by
        simp only [List.mem_cons, List.not_mem_nil, or_false] at hx
        rcases hx with rfl | rfl | rfl | rfl
        · exact Tg.lst (n := 6000) (d := 3) (m := 200000) (sub rows fun r hr => hr) (by rw [List.length_map]; omega)
        · exact tr _ (by rw [List.length_map]; have := List.length_take_le 1 rows; omega) (sub _ fun r hr => List.mem_of_mem_take hr)
        · exact tr _ (by rw [List.length_map, List.length_append]; omega) (sub _ fun r hr => by rcases List.mem_append.mp hr with q | q <;> exact q)
        · exact tr _ (by rw [List.length_map, List.length_drop]; omega) (sub _ fun r hr => List.mem_of_mem_drop hr))
      have hX2 := both X hX
      have u := hX2.u
      refine ⟨_, d2, hX2, ?_, t2.mono (by omega)⟩
      clear s1 s2 s3 s4 e1 lr
      generalize (Rule.tb rows).D = RD at *
      generalize (rows ++ rows).map rowD = X1 at *
      generalize (rows.take 1).map rowD = X2 at *
      generalize (rows.drop 1).map rowD = X3 at *
      generalize rows.map rowD = X4 at *
      generalize rowsD rows = RS at *
      simp only [F_law_bent, draw_is]
      walk_at "all"
    by_cases c2 : v = 2
    · have r3 : ∀ hh, bop .add hh (.tup ((rows.take j).map rowD)) (.tup ((rows.drop (j + 1)).map rowD)) = .ok (.tup ((rows.take j ++ rows.drop (j + 1)).map rowD)) hh := add_m rowD _ _ (by omega)
      have hX2 := both (.tup ((rows.take j ++ rows.drop (j + 1)).map rowD)) (tr _ (by rw [List.length_map, List.length_append]; omega) (sub _ fun r hr => by
        rcases List.mem_append.mp hr with q | q
        · exact List.mem_of_mem_take q
        · exact List.mem_of_mem_drop q))
      have u := hX2.u
      refine ⟨_, d1, hX2, ?_, t1.mono (by omega)⟩
      clear s3 s4
      generalize (Rule.tb rows).D = RD at *
      generalize (rows.take j ++ rows.drop (j + 1)).map rowD = X1 at *
      generalize (rows.take j).map rowD = X2 at *
      generalize (rows.drop (j + 1)).map rowD = X3 at *
      generalize rowsD rows = RS at *
      simp only [F_law_bent, draw_is]
      walk_at "all"
    by_cases c3 : v = 3
    · have r3 : ∀ hh, bop .add hh (.tup ((rows.take j).map rowD)) (.tup (((rows.drop j).take 1).map rowD)) = .ok (.tup ((rows.take j ++ (rows.drop j).take 1).map rowD)) hh := add_m rowD _ _ (by omega)
      have r4 : ∀ hh, bop .add hh (.tup ((rows.take j ++ (rows.drop j).take 1).map rowD)) (.tup ((rows.drop j).map rowD)) = .ok (.tup ((rows.take j ++ (rows.drop j).take 1 ++ rows.drop j).map rowD)) hh := add_m rowD _ _ (by rw [List.length_append]; omega)
      have hX2 := both (.tup ((rows.take j ++ (rows.drop j).take 1 ++ rows.drop j).map rowD)) (tr _ (by rw [List.length_map, List.length_append, List.length_append]; omega) (sub _ fun r hr => by
        rcases List.mem_append.mp hr with q | q
        · rcases List.mem_append.mp q with q | q
          · exact List.mem_of_mem_take q
          · exact List.mem_of_mem_drop (List.mem_of_mem_take q)
        · exact List.mem_of_mem_drop q))
      have u := hX2.u
      refine ⟨_, d1, hX2, ?_, t1.mono (by omega)⟩
      clear s2
      generalize (Rule.tb rows).D = RD at *
      generalize (rows.take j ++ (rows.drop j).take 1 ++ rows.drop j).map rowD = X1 at *
      generalize (rows.take j ++ (rows.drop j).take 1).map rowD = X5 at *
      generalize (rows.take j).map rowD = X2 at *
      generalize ((rows.drop j).take 1).map rowD = X3 at *
      generalize (rows.drop j).map rowD = X4 at *
      generalize rowsD rows = RS at *
      simp only [F_law_bent, draw_is]
      walk_at "all"
    · obtain ⟨X, d2, hX, e2, t2⟩ := bent_row (l := h.length :: l) tb hj t1 (by omega)
      rw [List.set_set] at e2 t2
      have r3 : ∀ hh, bop .add hh (.tup ((rows.take j).map rowD)) (.tup [X]) = .ok (.tup ((rows.take j).map rowD ++ [X])) hh := add_d _ _ (by rw [List.length_map]; simp; omega)
      have r4 : ∀ hh, bop .add hh (.tup ((rows.take j).map rowD ++ [X])) (.tup ((rows.drop (j + 1)).map rowD)) = .ok (.tup ((rows.take j).map rowD ++ [X] ++ (rows.drop (j + 1)).map rowD)) hh := add_d _ _ (by rw [List.length_append, List.length_map, List.length_map]; simp; omega)
      have hX2 := both (.tup ((rows.take j).map rowD ++ [X] ++ (rows.drop (j + 1)).map rowD)) (tr _ (by rw [List.length_append, List.length_append, List.length_map, List.length_map]; simp; omega) (fun x hx => by
        rcases List.mem_append.mp hx with q | q
        · rcases List.mem_append.mp q with q | q
          · exact sub (rows.take j) (fun r hr => List.mem_of_mem_take hr) x q
          · rw [List.mem_singleton] at q; rw [q]; exact hX
        · exact sub (rows.drop (j + 1)) (fun r hr => List.mem_of_mem_drop hr) x q))
      have u := hX2.u
      refine ⟨_, d2, hX2, ?_, t2.mono (by omega)⟩
      clear s3 s4
      generalize (Rule.tb rows).D = RD at *
      generalize (rows.take j).map rowD ++ [X] ++ (rows.drop (j + 1)).map rowD = X1 at *
      generalize (rows.take j).map rowD ++ [X] = X5 at *
      generalize (rows.take j).map rowD = X2 at *
      generalize (rows.drop (j + 1)).map rowD = X3 at *
      generalize rowsD rows = RS at *
      simp only [F_law_bent, draw_is]
      walk_at "all"
end
section
variable {l : List Nat} {h : Hh} {n k : Nat}
theorem tg_rule {ρ : Rule} (ok : ρ.Ok) : Tg 300 500000 5 ρ.D := by
  cases ρ with
  | pw m =>
    have om : 2 ≤ m ∧ m ≤ 4 := ok
    exact (tg_pair (tg_w "power" (by decide)) (tg_i2 (by omega)))
  | tb rows =>
    have tb : Tab rows := ok
    have ll' := tb.len'
    exact tg_pair (tg_w "table" (by decide)) (Tg.tup (n := 2000) (d := 2) (m := 60000) (fun x hx => by
      obtain ⟨r, hr, rfl⟩ := List.mem_map.mp hx
      exact tg_row ⟨(tb.sz r hr).1.mono (by decide), (tb.sz r hr).2.mono (by decide)⟩) (by rw [List.length_map]; omega))
theorem b2_ok {s : Option D} {d : D} (t : IsTape h n k) (hk : k + 300 < 2 ^ 40) : ∃ h', turnK [2] [2, 3, 4, 5] (exL l F_law_b2) d [s, some (.ref n), none, none, none, none, none] h = .ok (.nx [s, some (.ref n), none, none, none, none, none]) h' ∧ IsTape h' n (k + 300) := by
  obtain ⟨ρ, d1, ok, e1, t1⟩ := Lw.rule_ok (l := l) t (by omega)
  obtain ⟨ys, d2, e2, l2, p2, t2⟩ := compE_tape (l := l) (tg := [6]) (e := .call "_law_bent" F_law_bent (.cons (.var 1) (.cons (.var 3) .nil))) (σ := [s, some (.ref n), some d, some ρ.D, none, none, none]) (n := n) (c := 4) (P := Tg 300 500000 5) (fun x g k tg hk => by
    obtain ⟨X, ds, hX, e, t'⟩ := bent_ok (l := l) ok tg hk
    refine ⟨X, ds, ?_, hX, t'⟩
    apply W.item
    · walk_at "tg"
    · walk_at "w") (rg 0 5) _ _ t1 (by simp [rg]; omega)
  rw [List.set_set] at e2 t2
  have l5 : (rg 0 5).length = 5 := rfl
  rw [l5] at l2 t2
  have ad : ∀ hh, bop .add hh (.lst [ρ.D]) (.lst ys) = .ok (.lst (ρ.D :: ys)) hh := fun hh => bop_addL (by simp; omega)
  have ly : ys.length ≤ 100000 := by omega
  have src : ∀ hh, srcOf hh (.lst (ρ.D :: ys)) = some (ρ.D :: ys, []) := fun _ => rfl
  have e4 := forE_same (l := l) (tg := [4]) (kill := [4, 5]) (body := F_law_b1) (h := h.set n (.lst d2)) (σ := [s, some (.ref n), some d, some ρ.D, none, none, none]) (xs := ρ.D :: ys) fun x hx => by
    rcases List.mem_cons.mp hx with rfl | q
    · exact b1_ok (tg_rule ok)
    · exact b1_ok (p2 x q)
  refine ⟨h.set n (.lst d2), ?_, t2.mono (by omega)⟩
  generalize ρ.D = RD at *
  simp only [F_law_b2, rule_is]
  walk_at "turn"
end
theorem keeps : Keeps 63 F_law := by
  intro ns hns
  obtain ⟨ds, et, t⟩ := tape_ok (l := [0]) (h := []) ns
  have rgk : rgOk 0 5 = true := by decide
  obtain ⟨h', el, _⟩ := forE_tape (l := [0]) (tg := [2]) (kill := [2, 3, 4, 5]) (body := F_law_b2) (n := 0) (c := 300) (σ := [some (.scr ns), some (.ref 0), none, none, none, none, none]) (fun d h k t hk => b2_ok t hk) (xs := rg 0 5) t (by simp [rg])
  refine ⟨[], ?_⟩
  simp only [List.nil_append, List.length_nil] at et el
  simp [F_law, tape_is, et, rgV, rgk, el, fin, D.und]

open PySem PySem.Spec PyProof.Rows L2 Mp
noncomputable def top (i : Nat) : Stmt := PySem.Challenge.pw_paceplan_k09_rules_let_by_or_not.main.body.getD i (.Pass ⟨0, 0, 0, 0⟩)
theorem u_is_whole : usesSL false F_is_whole.body = [] := by rfl
theorem c_is_whole : defC false (top 9) ["thing"] ["thing"] F_is_whole = true := by decide +kernel
theorem u_divisor : usesSL false F_divisor.body = [] := by rfl
theorem c_divisor : defC false (top 10) ["one", "other"] ["one", "other"] F_divisor = true := by decide +kernel
theorem u_is_ratio : usesSL false F_is_ratio.body = [.fn false "is_whole" F_is_whole, .fn false "is_whole" F_is_whole, .fn false "divisor" F_divisor] := by rfl
theorem c_is_ratio : defC false (top 11) ["thing"] ["thing"] F_is_ratio = true := by decide +kernel
theorem u_ratio : usesSL false F_ratio.body = [.rz "NoRatio", .fn false "divisor" F_divisor] := by rfl
theorem c_ratio : defC false (top 12) ["top", "bottom", "by"] ["top", "bottom"] F_ratio = true := by decide +kernel
theorem u_minus : usesSL false F_minus.body = [.fn false "ratio" F_ratio] := by rfl
theorem c_minus : defC false (top 13) ["one", "other"] ["one", "other"] F_minus = true := by decide +kernel
theorem u_over : usesSL false F_over.body = [.fn false "ratio" F_ratio] := by rfl
theorem c_over : defC false (top 14) ["one", "other"] ["one", "other"] F_over = true := by decide +kernel
theorem u_is_less : usesSL false F_is_less.body = [] := by rfl
theorem c_is_less : defC false (top 15) ["one", "other"] ["one", "other"] F_is_less = true := by decide +kernel
theorem u_is_pair : usesSL false F_is_pair.body = [.fn false "is_ratio" F_is_ratio, .fn false "is_ratio" F_is_ratio] := by rfl
theorem c_is_pair : defC false (top 17) ["thing"] ["thing"] F_is_pair = true := by decide +kernel
theorem u_slope_between : usesSL false F_slope_between.body = [.fn false "over" F_over, .fn false "minus" F_minus, .fn false "minus" F_minus] := by rfl
theorem c_slope_between : defC false (top 18) ["row", "other"] ["row", "other"] F_slope_between = true := by decide +kernel
theorem u_is_behind : usesSL false F_is_behind.body = [.glob "NOUGHT" (.tup [(.int 0), (.int 1)]), .fn false "is_less" F_is_less, .glob "NOUGHT" (.tup [(.int 0), (.int 1)]), .fn false "is_less" F_is_less, .fn false "is_less" F_is_less, .fn false "is_less" F_is_less, .fn false "slope_between" F_slope_between, .fn false "slope_between" F_slope_between] := by rfl
theorem c_is_behind : defC false (top 19) ["rows", "row"] ["rows", "row"] F_is_behind = true := by decide +kernel
theorem u_right_rule : usesSL false F_right_rule.body = [.rz "NoRule", .fn false "is_whole" F_is_whole, .rz "NoRule", .rz "NoRule", .fn false "is_pair" F_is_pair, .fn false "is_behind" F_is_behind, .rz "NoRule"] := by rfl
theorem c_right_rule : defC false (top 20) ["thing", "n", "row"] ["thing"] F_right_rule = true := by decide +kernel
theorem u_law_tape : usesSL false F_law_tape.body = [] := by rfl
theorem c_law_tape : defC false (top 22) ["_law_script"] ["_law_script"] F_law_tape = true := by decide +kernel
theorem u_law_draw : usesSL false F_law_draw.body = [] := by rfl
theorem c_law_draw : defC false (top 23) ["_law_tape_here", "_law_many", "_law_script", "_law_spot", "_law_cell", "_law_mixed", "_law_left"] ["_law_tape_here", "_law_many"] F_law_draw = true := by decide +kernel
theorem u_law_gcd : usesSL false F_law_gcd.body = [] := by rfl
theorem c_law_gcd : defC false (top 24) ["_law_one", "_law_other"] ["_law_one", "_law_other"] F_law_gcd = true := by decide +kernel
theorem u_law_ratio : usesSL false F_law_ratio.body = [.fn false "_law_gcd" F_law_gcd] := by rfl
theorem c_law_ratio : defC false (top 25) ["_law_top", "_law_bottom", "_law_by"] ["_law_top", "_law_bottom"] F_law_ratio = true := by decide +kernel
theorem u_law_plus : usesSL false F_law_plus.body = [.fn false "_law_ratio" F_law_ratio] := by rfl
theorem c_law_plus : defC false (top 26) ["_law_one", "_law_other"] ["_law_one", "_law_other"] F_law_plus = true := by decide +kernel
theorem u_law_minus : usesSL false F_law_minus.body = [.fn false "_law_ratio" F_law_ratio] := by rfl
theorem c_law_minus : defC false (top 27) ["_law_one", "_law_other"] ["_law_one", "_law_other"] F_law_minus = true := by decide +kernel
theorem u_law_times : usesSL false F_law_times.body = [.fn false "_law_ratio" F_law_ratio] := by rfl
theorem c_law_times : defC false (top 28) ["_law_one", "_law_other"] ["_law_one", "_law_other"] F_law_times = true := by decide +kernel
theorem u_law_less : usesSL false F_law_less.body = [] := by rfl
theorem c_law_less : defC false (top 30) ["_law_one", "_law_other"] ["_law_one", "_law_other"] F_law_less = true := by decide +kernel
theorem u_law_part : usesSL false F_law_part.body = [.fn false "_law_draw" F_law_draw, .fn false "_law_draw" F_law_draw, .fn false "_law_draw" F_law_draw, .fn false "_law_ratio" F_law_ratio, .fn false "_law_draw" F_law_draw, .fn false "_law_draw" F_law_draw] := by rfl
theorem c_law_part : defC false (top 31) ["_law_tape_here", "_law_tops", "_law_bottoms"] ["_law_tape_here"] F_law_part = true := by decide +kernel
theorem u_law_table : usesSL false F_law_table.body = [.fn false "_law_part" F_law_part, .fn false "_law_draw" F_law_draw, .fn false "_law_part" F_law_part, .fn false "_law_draw" F_law_draw, .fn false "_law_part" F_law_part, .fn false "_law_plus" F_law_plus, .fn false "_law_plus" F_law_plus, .fn false "_law_times" F_law_times, .fn false "_law_draw" F_law_draw, .fn false "_law_plus" F_law_plus, .fn false "_law_part" F_law_part] := by rfl
theorem c_law_table : defC false (top 32) ["_law_tape_here", "_law_rows", "_law_slope", "_law_k", "_law_step", "_law_speed", "_law_power"] ["_law_tape_here"] F_law_table = true := by decide +kernel
theorem u_law_rule : usesSL false F_law_rule.body = [.fn false "_law_draw" F_law_draw, .fn false "_law_draw" F_law_draw, .fn false "_law_table" F_law_table] := by rfl
theorem c_law_rule : defC false (top 33) ["_law_tape_here"] ["_law_tape_here"] F_law_rule = true := by decide +kernel
theorem u_law_whole : usesSL false F_law_whole.body = [] := by rfl
theorem c_law_whole : defC false (top 34) ["_law_thing"] ["_law_thing"] F_law_whole = true := by decide +kernel
theorem u_law_is_ratio : usesSL false F_law_is_ratio.body = [.fn false "_law_whole" F_law_whole, .fn false "_law_whole" F_law_whole, .fn false "_law_gcd" F_law_gcd] := by rfl
theorem c_law_is_ratio : defC false (top 35) ["_law_thing"] ["_law_thing"] F_law_is_ratio = true := by decide +kernel
theorem u_law_is_pair : usesSL false F_law_is_pair.body = [.fn false "_law_is_ratio" F_law_is_ratio, .fn false "_law_is_ratio" F_law_is_ratio] := by rfl
theorem c_law_is_pair : defC false (top 36) ["_law_thing"] ["_law_thing"] F_law_is_pair = true := by decide +kernel
theorem u_law_row_right : usesSL false F_law_row_right.body = [.fn false "_law_less" F_law_less, .fn false "_law_less" F_law_less, .fn false "_law_minus" F_law_minus, .fn false "_law_minus" F_law_minus, .fn false "_law_less" F_law_less, .fn false "_law_times" F_law_times, .fn false "_law_times" F_law_times] := by rfl
theorem c_law_row_right : defC false (top 37) ["_law_rows", "_law_n", "_law_speed", "_law_power", "_law_steps", "_law_climbs", "_law_k"] ["_law_rows", "_law_n"] F_law_row_right = true := by decide +kernel
theorem u_law_due : usesSL false F_law_due.body = [.fn false "_law_whole" F_law_whole, .fn false "_law_is_pair" F_law_is_pair, .fn false "_law_row_right" F_law_row_right] := by rfl
theorem c_law_due : defC false (top 38) ["_law_thing", "_law_n"] ["_law_thing"] F_law_due = true := by decide +kernel
theorem u_law_bent_row : usesSL false F_law_bent_row.body = [.fn false "_law_plus" F_law_plus, .fn false "_law_minus" F_law_minus, .fn false "_law_plus" F_law_plus, .fn false "_law_draw" F_law_draw] := by rfl
theorem c_law_bent_row : defC false (top 39) ["_law_tape_here", "_law_rows", "_law_at", "_law_speed", "_law_power", "_law_little", "_law_some"] ["_law_tape_here", "_law_rows", "_law_at"] F_law_bent_row = true := by decide +kernel
theorem u_law_bent : usesSL false F_law_bent.body = [.fn false "_law_draw" F_law_draw, .fn false "_law_draw" F_law_draw, .fn false "_law_draw" F_law_draw, .fn false "_law_draw" F_law_draw, .fn false "_law_draw" F_law_draw, .fn false "_law_bent_row" F_law_bent_row] := by rfl
theorem c_law_bent : defC false (top 40) ["_law_tape_here", "_law_rule_here", "_law_way", "_law_rows", "_law_at", "_law_some"] ["_law_tape_here", "_law_rule_here"] F_law_bent = true := by decide +kernel
theorem u_law_told : usesSL false F_law_told.body = [.fn false "right_rule" F_right_rule, .cls "PaceError", .cls "NoRule", .cls "NoPlan", .cls "NoSheet", .cls "NoSpeed"] := by rfl
theorem c_law_told : defC false (top 41) ["_law_thing", "_law_found", "e"] ["_law_thing"] F_law_told = true := by decide +kernel
theorem u_law : usesSL false F_law.body = [.fn false "_law_tape" F_law_tape, .fn false "_law_rule" F_law_rule, .fn false "_law_bent" F_law_bent, .fn false "_law_told" F_law_told, .fn false "_law_due" F_law_due] := by rfl
theorem c_law : defC false (top 42) ["_law_script", "_law_tape_here", "_law_k", "_law_rule_here", "_law_thing", "_law_kept", "_law_j"] ["_law_script"] F_law = true := by decide +kernel
noncomputable def in_NoRule : Stmt := clsMeth (top 3) "__init__"
theorem ix_NoRule : initC (excF "NoRule") in_NoRule = true := by decide +kernel
theorem is_NoRule : initScC (excF "NoRule") (defScope in_NoRule) = true := by decide +kernel

section
variable {P : Program} {w : World} {K : PySem.W.Frag} {mg : Str → Option Value} {base h : Heap}
theorem all_ok (X : K.In h) (G : h.Ns mainGlobals mg) (fr : ∀ x ∈ bltNames, PySem.W.nsIn K mainGlobals (Str.ofString x) = some none)
  (d_is_whole : Dfn K "is_whole" (top 9) ["thing"])
  (d_divisor : Dfn K "divisor" (top 10) ["one", "other"])
  (d_is_ratio : Dfn K "is_ratio" (top 11) ["thing"])
  (d_ratio : Dfn K "ratio" (top 12) ["top", "bottom"])
  (d_minus : Dfn K "minus" (top 13) ["one", "other"])
  (d_over : Dfn K "over" (top 14) ["one", "other"])
  (d_is_less : Dfn K "is_less" (top 15) ["one", "other"])
  (d_is_pair : Dfn K "is_pair" (top 17) ["thing"])
  (d_slope_between : Dfn K "slope_between" (top 18) ["row", "other"])
  (d_is_behind : Dfn K "is_behind" (top 19) ["rows", "row"])
  (d_right_rule : Dfn K "right_rule" (top 20) ["thing"])
  (d_law_tape : Dfn K "_law_tape" (top 22) ["_law_script"])
  (d_law_draw : Dfn K "_law_draw" (top 23) ["_law_tape_here", "_law_many"])
  (d_law_gcd : Dfn K "_law_gcd" (top 24) ["_law_one", "_law_other"])
  (d_law_ratio : Dfn K "_law_ratio" (top 25) ["_law_top", "_law_bottom"])
  (d_law_plus : Dfn K "_law_plus" (top 26) ["_law_one", "_law_other"])
  (d_law_minus : Dfn K "_law_minus" (top 27) ["_law_one", "_law_other"])
  (d_law_times : Dfn K "_law_times" (top 28) ["_law_one", "_law_other"])
  (d_law_less : Dfn K "_law_less" (top 30) ["_law_one", "_law_other"])
  (d_law_part : Dfn K "_law_part" (top 31) ["_law_tape_here"])
  (d_law_table : Dfn K "_law_table" (top 32) ["_law_tape_here"])
  (d_law_rule : Dfn K "_law_rule" (top 33) ["_law_tape_here"])
  (d_law_whole : Dfn K "_law_whole" (top 34) ["_law_thing"])
  (d_law_is_ratio : Dfn K "_law_is_ratio" (top 35) ["_law_thing"])
  (d_law_is_pair : Dfn K "_law_is_pair" (top 36) ["_law_thing"])
  (d_law_row_right : Dfn K "_law_row_right" (top 37) ["_law_rows", "_law_n"])
  (d_law_due : Dfn K "_law_due" (top 38) ["_law_thing"])
  (d_law_bent_row : Dfn K "_law_bent_row" (top 39) ["_law_tape_here", "_law_rows", "_law_at"])
  (d_law_bent : Dfn K "_law_bent" (top 40) ["_law_tape_here", "_law_rule_here"])
  (d_law_told : Dfn K "_law_told" (top 41) ["_law_thing"])
  (d_law : Dfn K "law" (top 42) ["_law_script"])
  (x_NoRule : ∃ C, ExAt K "NoRule" C)
  (x_PaceError : ∃ C, ExAt K "PaceError" C)
  (x_NoPlan : ∃ C, ExAt K "NoPlan" C)
  (x_NoSheet : ∃ C, ExAt K "NoSheet" C)
  (x_NoSpeed : ∃ C, ExAt K "NoSpeed" C)
  (r_NoRatio : ∃ C, ExAt K "NoRatio" C ∧ PySem.W.excIn K C PySem.HandSPX.veTail "ValueError.__new__" = true)
  (i_NoRule : InitAt K "NoRule" in_NoRule)
  (gv_NOUGHT : GlobAt K "NOUGHT" (.tup [(.int 0), (.int 1)])) : ∀ {fa : Addr}, mg "law" = some (.ref fa) →
    ∃ fd : FuncData, (∀ (s : Shared) (u : Value), BindsTo s fd ⟨[u], []⟩ [("_law_script", u)]) ∧ ∀ base : Heap, K.In base → base.Ns mainGlobals mg → FnG P w K mg base false 9 fa fd ["_law_script"] F_law := by
  intro fa hfa
  refine law_go d_law X G hfa c_law fr fun base _ _ => ?_
  have g_is_whole : CallOk P w K mg base false 1 "is_whole" F_is_whole := Dfn.call d_is_whole X G c_is_whole fr (fun u hu => by rw [u_is_whole] at hu; cases hu)
  have g_divisor : CallOk P w K mg base false 1 "divisor" F_divisor := Dfn.call d_divisor X G c_divisor fr (fun u hu => by rw [u_divisor] at hu; cases hu)
  have g_is_ratio : CallOk P w K mg base false 2 "is_ratio" F_is_ratio := Dfn.call d_is_ratio X G c_is_ratio fr (fun u hu => by
    rw [u_is_ratio] at hu
    simp only [List.mem_cons, List.not_mem_nil, or_false] at hu
    rcases hu with rfl | rfl | rfl
    · exact g_is_whole.mono (by decide)
    · exact g_is_whole.mono (by decide)
    · exact g_divisor.mono (by decide))
  have g_ratio : CallOk P w K mg base false 3 "ratio" F_ratio := Dfn.call d_ratio X G c_ratio fr (fun u hu => by
    rw [u_ratio] at hu
    simp only [List.mem_cons, List.not_mem_nil, or_false] at hu
    rcases hu with rfl | rfl
    · exact use_rz0 X G (by decide) (by decide) (by decide) r_NoRatio
    · exact g_divisor.mono (by decide))
  have g_minus : CallOk P w K mg base false 4 "minus" F_minus := Dfn.call d_minus X G c_minus fr (fun u hu => by
    rw [u_minus] at hu
    simp only [List.mem_cons, List.not_mem_nil, or_false] at hu
    rcases hu with rfl
    · exact g_ratio.mono (by decide))
  have g_over : CallOk P w K mg base false 4 "over" F_over := Dfn.call d_over X G c_over fr (fun u hu => by
    rw [u_over] at hu
    simp only [List.mem_cons, List.not_mem_nil, or_false] at hu
    rcases hu with rfl
    · exact g_ratio.mono (by decide))
  have g_is_less : CallOk P w K mg base false 1 "is_less" F_is_less := Dfn.call d_is_less X G c_is_less fr (fun u hu => by rw [u_is_less] at hu; cases hu)
  have g_is_pair : CallOk P w K mg base false 3 "is_pair" F_is_pair := Dfn.call d_is_pair X G c_is_pair fr (fun u hu => by
    rw [u_is_pair] at hu
    simp only [List.mem_cons, List.not_mem_nil, or_false] at hu
    rcases hu with rfl | rfl
    · exact g_is_ratio.mono (by decide)
    · exact g_is_ratio.mono (by decide))
  have g_slope_between : CallOk P w K mg base false 5 "slope_between" F_slope_between := Dfn.call d_slope_between X G c_slope_between fr (fun u hu => by
    rw [u_slope_between] at hu
    simp only [List.mem_cons, List.not_mem_nil, or_false] at hu
    rcases hu with rfl | rfl | rfl
    · exact g_over.mono (by decide)
    · exact g_minus.mono (by decide)
    · exact g_minus.mono (by decide))
  have g_is_behind : CallOk P w K mg base false 6 "is_behind" F_is_behind := Dfn.call d_is_behind X G c_is_behind fr (fun u hu => by
    rw [u_is_behind] at hu
    simp only [List.mem_cons, List.not_mem_nil, or_false] at hu
    rcases hu with rfl | rfl | rfl | rfl | rfl | rfl | rfl | rfl
    · exact use_glob X G gv_NOUGHT
    · exact g_is_less.mono (by decide)
    · exact use_glob X G gv_NOUGHT
    · exact g_is_less.mono (by decide)
    · exact g_is_less.mono (by decide)
    · exact g_is_less.mono (by decide)
    · exact g_slope_between.mono (by decide)
    · exact g_slope_between.mono (by decide))
  have g_right_rule : CallOk P w K mg base false 7 "right_rule" F_right_rule := Dfn.call d_right_rule X G c_right_rule fr (fun u hu => by
    rw [u_right_rule] at hu
    simp only [List.mem_cons, List.not_mem_nil, or_false] at hu
    rcases hu with rfl | rfl | rfl | rfl | rfl | rfl | rfl
    · exact use_rz1 X G (by decide) (by decide) (by decide) x_NoRule i_NoRule is_NoRule ix_NoRule
    · exact g_is_whole.mono (by decide)
    · exact use_rz1 X G (by decide) (by decide) (by decide) x_NoRule i_NoRule is_NoRule ix_NoRule
    · exact use_rz1 X G (by decide) (by decide) (by decide) x_NoRule i_NoRule is_NoRule ix_NoRule
    · exact g_is_pair.mono (by decide)
    · exact g_is_behind.mono (by decide)
    · exact use_rz1 X G (by decide) (by decide) (by decide) x_NoRule i_NoRule is_NoRule ix_NoRule)
  have g_law_tape : CallOk P w K mg base false 1 "_law_tape" F_law_tape := Dfn.call d_law_tape X G c_law_tape fr (fun u hu => by rw [u_law_tape] at hu; cases hu)
  have g_law_draw : CallOk P w K mg base false 1 "_law_draw" F_law_draw := Dfn.call d_law_draw X G c_law_draw fr (fun u hu => by rw [u_law_draw] at hu; cases hu)
  have g_law_gcd : CallOk P w K mg base false 1 "_law_gcd" F_law_gcd := Dfn.call d_law_gcd X G c_law_gcd fr (fun u hu => by rw [u_law_gcd] at hu; cases hu)
  have g_law_ratio : CallOk P w K mg base false 2 "_law_ratio" F_law_ratio := Dfn.call d_law_ratio X G c_law_ratio fr (fun u hu => by
    rw [u_law_ratio] at hu
    simp only [List.mem_cons, List.not_mem_nil, or_false] at hu
    rcases hu with rfl
    · exact g_law_gcd.mono (by decide))
  have g_law_plus : CallOk P w K mg base false 3 "_law_plus" F_law_plus := Dfn.call d_law_plus X G c_law_plus fr (fun u hu => by
    rw [u_law_plus] at hu
    simp only [List.mem_cons, List.not_mem_nil, or_false] at hu
    rcases hu with rfl
    · exact g_law_ratio.mono (by decide))
  have g_law_minus : CallOk P w K mg base false 3 "_law_minus" F_law_minus := Dfn.call d_law_minus X G c_law_minus fr (fun u hu => by
    rw [u_law_minus] at hu
    simp only [List.mem_cons, List.not_mem_nil, or_false] at hu
    rcases hu with rfl
    · exact g_law_ratio.mono (by decide))
  have g_law_times : CallOk P w K mg base false 3 "_law_times" F_law_times := Dfn.call d_law_times X G c_law_times fr (fun u hu => by
    rw [u_law_times] at hu
    simp only [List.mem_cons, List.not_mem_nil, or_false] at hu
    rcases hu with rfl
    · exact g_law_ratio.mono (by decide))
  have g_law_less : CallOk P w K mg base false 1 "_law_less" F_law_less := Dfn.call d_law_less X G c_law_less fr (fun u hu => by rw [u_law_less] at hu; cases hu)
  have g_law_part : CallOk P w K mg base false 3 "_law_part" F_law_part := Dfn.call d_law_part X G c_law_part fr (fun u hu => by
    rw [u_law_part] at hu
    simp only [List.mem_cons, List.not_mem_nil, or_false] at hu
    rcases hu with rfl | rfl | rfl | rfl | rfl | rfl
    · exact g_law_draw.mono (by decide)
    · exact g_law_draw.mono (by decide)
    · exact g_law_draw.mono (by decide)
    · exact g_law_ratio.mono (by decide)
    · exact g_law_draw.mono (by decide)
    · exact g_law_draw.mono (by decide))
  have g_law_table : CallOk P w K mg base false 4 "_law_table" F_law_table := Dfn.call d_law_table X G c_law_table fr (fun u hu => by
    rw [u_law_table] at hu
    simp only [List.mem_cons, List.not_mem_nil, or_false] at hu
    rcases hu with rfl | rfl | rfl | rfl | rfl | rfl | rfl | rfl | rfl | rfl | rfl
    · exact g_law_part.mono (by decide)
    · exact g_law_draw.mono (by decide)
    · exact g_law_part.mono (by decide)
    · exact g_law_draw.mono (by decide)
    · exact g_law_part.mono (by decide)
    · exact g_law_plus.mono (by decide)
    · exact g_law_plus.mono (by decide)
    · exact g_law_times.mono (by decide)
    · exact g_law_draw.mono (by decide)
    · exact g_law_plus.mono (by decide)
    · exact g_law_part.mono (by decide))
  have g_law_rule : CallOk P w K mg base false 5 "_law_rule" F_law_rule := Dfn.call d_law_rule X G c_law_rule fr (fun u hu => by
    rw [u_law_rule] at hu
    simp only [List.mem_cons, List.not_mem_nil, or_false] at hu
    rcases hu with rfl | rfl | rfl
    · exact g_law_draw.mono (by decide)
    · exact g_law_draw.mono (by decide)
    · exact g_law_table.mono (by decide))
  have g_law_whole : CallOk P w K mg base false 1 "_law_whole" F_law_whole := Dfn.call d_law_whole X G c_law_whole fr (fun u hu => by rw [u_law_whole] at hu; cases hu)
  have g_law_is_ratio : CallOk P w K mg base false 2 "_law_is_ratio" F_law_is_ratio := Dfn.call d_law_is_ratio X G c_law_is_ratio fr (fun u hu => by
    rw [u_law_is_ratio] at hu
    simp only [List.mem_cons, List.not_mem_nil, or_false] at hu
    rcases hu with rfl | rfl | rfl
    · exact g_law_whole.mono (by decide)
    · exact g_law_whole.mono (by decide)
    · exact g_law_gcd.mono (by decide))
  have g_law_is_pair : CallOk P w K mg base false 3 "_law_is_pair" F_law_is_pair := Dfn.call d_law_is_pair X G c_law_is_pair fr (fun u hu => by
    rw [u_law_is_pair] at hu
    simp only [List.mem_cons, List.not_mem_nil, or_false] at hu
    rcases hu with rfl | rfl
    · exact g_law_is_ratio.mono (by decide)
    · exact g_law_is_ratio.mono (by decide))
  have g_law_row_right : CallOk P w K mg base false 4 "_law_row_right" F_law_row_right := Dfn.call d_law_row_right X G c_law_row_right fr (fun u hu => by
    rw [u_law_row_right] at hu
    simp only [List.mem_cons, List.not_mem_nil, or_false] at hu
    rcases hu with rfl | rfl | rfl | rfl | rfl | rfl | rfl
    · exact g_law_less.mono (by decide)
    · exact g_law_less.mono (by decide)
    · exact g_law_minus.mono (by decide)
    · exact g_law_minus.mono (by decide)
    · exact g_law_less.mono (by decide)
    · exact g_law_times.mono (by decide)
    · exact g_law_times.mono (by decide))
  have g_law_due : CallOk P w K mg base false 5 "_law_due" F_law_due := Dfn.call d_law_due X G c_law_due fr (fun u hu => by
    rw [u_law_due] at hu
    simp only [List.mem_cons, List.not_mem_nil, or_false] at hu
    rcases hu with rfl | rfl | rfl
    · exact g_law_whole.mono (by decide)
    · exact g_law_is_pair.mono (by decide)
    · exact g_law_row_right.mono (by decide))
  have g_law_bent_row : CallOk P w K mg base false 4 "_law_bent_row" F_law_bent_row := Dfn.call d_law_bent_row X G c_law_bent_row fr (fun u hu => by
    rw [u_law_bent_row] at hu
    simp only [List.mem_cons, List.not_mem_nil, or_false] at hu
    rcases hu with rfl | rfl | rfl | rfl
    · exact g_law_plus.mono (by decide)
    · exact g_law_minus.mono (by decide)
    · exact g_law_plus.mono (by decide)
    · exact g_law_draw.mono (by decide))
  have g_law_bent : CallOk P w K mg base false 5 "_law_bent" F_law_bent := Dfn.call d_law_bent X G c_law_bent fr (fun u hu => by
    rw [u_law_bent] at hu
    simp only [List.mem_cons, List.not_mem_nil, or_false] at hu
    rcases hu with rfl | rfl | rfl | rfl | rfl | rfl
    · exact g_law_draw.mono (by decide)
    · exact g_law_draw.mono (by decide)
    · exact g_law_draw.mono (by decide)
    · exact g_law_draw.mono (by decide)
    · exact g_law_draw.mono (by decide)
    · exact g_law_bent_row.mono (by decide))
  have g_law_told : CallOk P w K mg base false 8 "_law_told" F_law_told := Dfn.call d_law_told X G c_law_told fr (fun u hu => by
    rw [u_law_told] at hu
    simp only [List.mem_cons, List.not_mem_nil, or_false] at hu
    rcases hu with rfl | rfl | rfl | rfl | rfl | rfl
    · exact g_right_rule.mono (by decide)
    · exact use_cls X G x_PaceError
    · exact use_cls X G x_NoRule
    · exact use_cls X G x_NoPlan
    · exact use_cls X G x_NoSheet
    · exact use_cls X G x_NoSpeed)
  exact (fun u hu => by
    rw [u_law] at hu
    simp only [List.mem_cons, List.not_mem_nil, or_false] at hu
    rcases hu with rfl | rfl | rfl | rfl | rfl
    · exact g_law_tape.mono (by decide)
    · exact g_law_rule.mono (by decide)
    · exact g_law_bent.mono (by decide)
    · exact g_law_told.mono (by decide)
    · exact g_law_due.mono (by decide))
end
end K
open PySem PySem.W PyProof.Rows
set_option maxRecDepth 100000 in
set_option maxHeartbeats 8000000 in
theorem PySem.Challenge.cw_paceplan_k09_rules_let_by_or_not_holds : PySem.Challenge.rw_paceplan_k09_rules_let_by_or_not.Holds := by
  w_on; o_law; k_head; (case hw => w_witness2); k_fill
  refine Mp.walk_law (k := 9) (n := 63) (f := K.F_law) (x := "_law_script") rfl (by decide) rfl ⟨rfl, by decide, by decide⟩ (fun w h Y => PySem.W.kIn_of Y) K.keeps ?G
  case G =>
    intro w mg fa h KX G hmg
    refine K.all_ok KX G ?fr ?d0 ?d1 ?d2 ?d3 ?d4 ?d5 ?d6 ?d7 ?d8 ?d9 ?d10 ?d11 ?d12 ?d13 ?d14 ?d15 ?d16 ?d17 ?d18 ?d19 ?d20 ?d21 ?d22 ?d23 ?d24 ?d25 ?d26 ?d27 ?d28 ?d29 ?d30 ?x0 ?x1 ?x2 ?x3 ?x4 ?r0 ?r1 ?v0 hmg
    case fr =>
      intro x hx
      simp only [Mp.bltNames, List.mem_cons, List.not_mem_nil, or_false] at hx
      rcases hx with rfl | rfl | rfl | rfl | rfl | rfl | rfl | rfl | rfl | rfl | rfl | rfl | rfl | rfl | rfl | rfl | rfl | rfl | rfl | rfl | rfl <;> k_is
    case d0 =>
      refine' Mp.dfn_mk (ps := ["thing"]) ?a0 ?l0 ?c0 ?k0 (fun _ _ _ _ _ _ us hl => match us, hl with | [_], _ => rfl)
      (case a0 => k_is); (case l0 => k_is); (case c0 => k_is); (case k0 => k_is)
    case d1 =>
      refine' Mp.dfn_mk (ps := ["one", "other"]) ?a1 ?l1 ?c1 ?k1 (fun _ _ _ _ _ _ us hl => match us, hl with | [_, _], _ => rfl)
      (case a1 => k_is); (case l1 => k_is); (case c1 => k_is); (case k1 => k_is)
    case d2 =>
      refine' Mp.dfn_mk (ps := ["thing"]) ?a2 ?l2 ?c2 ?k2 (fun _ _ _ _ _ _ us hl => match us, hl with | [_], _ => rfl)
      (case a2 => k_is); (case l2 => k_is); (case c2 => k_is); (case k2 => k_is)
    case d3 =>
      refine' Mp.dfn_mk (ps := ["top", "bottom"]) ?a3 ?l3 ?c3 ?k3 (fun _ _ _ _ _ _ us hl => match us, hl with | [_, _], _ => rfl)
      (case a3 => k_is); (case l3 => k_is); (case c3 => k_is); (case k3 => k_is)
    case d4 =>
      refine' Mp.dfn_mk (ps := ["one", "other"]) ?a4 ?l4 ?c4 ?k4 (fun _ _ _ _ _ _ us hl => match us, hl with | [_, _], _ => rfl)
      (case a4 => k_is); (case l4 => k_is); (case c4 => k_is); (case k4 => k_is)
    case d5 =>
      refine' Mp.dfn_mk (ps := ["one", "other"]) ?a5 ?l5 ?c5 ?k5 (fun _ _ _ _ _ _ us hl => match us, hl with | [_, _], _ => rfl)
      (case a5 => k_is); (case l5 => k_is); (case c5 => k_is); (case k5 => k_is)
    case d6 =>
      refine' Mp.dfn_mk (ps := ["one", "other"]) ?a6 ?l6 ?c6 ?k6 (fun _ _ _ _ _ _ us hl => match us, hl with | [_, _], _ => rfl)
      (case a6 => k_is); (case l6 => k_is); (case c6 => k_is); (case k6 => k_is)
    case d7 =>
      refine' Mp.dfn_mk (ps := ["thing"]) ?a7 ?l7 ?c7 ?k7 (fun _ _ _ _ _ _ us hl => match us, hl with | [_], _ => rfl)
      (case a7 => k_is); (case l7 => k_is); (case c7 => k_is); (case k7 => k_is)
    case d8 =>
      refine' Mp.dfn_mk (ps := ["row", "other"]) ?a8 ?l8 ?c8 ?k8 (fun _ _ _ _ _ _ us hl => match us, hl with | [_, _], _ => rfl)
      (case a8 => k_is); (case l8 => k_is); (case c8 => k_is); (case k8 => k_is)
    case d9 =>
      refine' Mp.dfn_mk (ps := ["rows", "row"]) ?a9 ?l9 ?c9 ?k9 (fun _ _ _ _ _ _ us hl => match us, hl with | [_, _], _ => rfl)
      (case a9 => k_is); (case l9 => k_is); (case c9 => k_is); (case k9 => k_is)
    case d10 =>
      refine' Mp.dfn_mk (ps := ["thing"]) ?a10 ?l10 ?c10 ?k10 (fun _ _ _ _ _ _ us hl => match us, hl with | [_], _ => rfl)
      (case a10 => k_is); (case l10 => k_is); (case c10 => k_is); (case k10 => k_is)
    case d11 =>
      refine' Mp.dfn_mk (ps := ["_law_script"]) ?a11 ?l11 ?c11 ?k11 (fun _ _ _ _ _ _ us hl => match us, hl with | [_], _ => rfl)
      (case a11 => k_is); (case l11 => k_is); (case c11 => k_is); (case k11 => k_is)
    case d12 =>
      refine' Mp.dfn_mk (ps := ["_law_tape_here", "_law_many"]) ?a12 ?l12 ?c12 ?k12 (fun _ _ _ _ _ _ us hl => match us, hl with | [_, _], _ => rfl)
      (case a12 => k_is); (case l12 => k_is); (case c12 => k_is); (case k12 => k_is)
    case d13 =>
      refine' Mp.dfn_mk (ps := ["_law_one", "_law_other"]) ?a13 ?l13 ?c13 ?k13 (fun _ _ _ _ _ _ us hl => match us, hl with | [_, _], _ => rfl)
      (case a13 => k_is); (case l13 => k_is); (case c13 => k_is); (case k13 => k_is)
    case d14 =>
      refine' Mp.dfn_mk (ps := ["_law_top", "_law_bottom"]) ?a14 ?l14 ?c14 ?k14 (fun _ _ _ _ _ _ us hl => match us, hl with | [_, _], _ => rfl)
      (case a14 => k_is); (case l14 => k_is); (case c14 => k_is); (case k14 => k_is)
    case d15 =>
      refine' Mp.dfn_mk (ps := ["_law_one", "_law_other"]) ?a15 ?l15 ?c15 ?k15 (fun _ _ _ _ _ _ us hl => match us, hl with | [_, _], _ => rfl)
      (case a15 => k_is); (case l15 => k_is); (case c15 => k_is); (case k15 => k_is)
    case d16 =>
      refine' Mp.dfn_mk (ps := ["_law_one", "_law_other"]) ?a16 ?l16 ?c16 ?k16 (fun _ _ _ _ _ _ us hl => match us, hl with | [_, _], _ => rfl)
      (case a16 => k_is); (case l16 => k_is); (case c16 => k_is); (case k16 => k_is)
    case d17 =>
      refine' Mp.dfn_mk (ps := ["_law_one", "_law_other"]) ?a17 ?l17 ?c17 ?k17 (fun _ _ _ _ _ _ us hl => match us, hl with | [_, _], _ => rfl)
      (case a17 => k_is); (case l17 => k_is); (case c17 => k_is); (case k17 => k_is)
    case d18 =>
      refine' Mp.dfn_mk (ps := ["_law_one", "_law_other"]) ?a18 ?l18 ?c18 ?k18 (fun _ _ _ _ _ _ us hl => match us, hl with | [_, _], _ => rfl)
      (case a18 => k_is); (case l18 => k_is); (case c18 => k_is); (case k18 => k_is)
    case d19 =>
      refine' Mp.dfn_mk (ps := ["_law_tape_here"]) ?a19 ?l19 ?c19 ?k19 (fun _ _ _ _ _ _ us hl => match us, hl with | [_], _ => rfl)
      (case a19 => k_is); (case l19 => k_is); (case c19 => k_is); (case k19 => k_is)
    case d20 =>
      refine' Mp.dfn_mk (ps := ["_law_tape_here"]) ?a20 ?l20 ?c20 ?k20 (fun _ _ _ _ _ _ us hl => match us, hl with | [_], _ => rfl)
      (case a20 => k_is); (case l20 => k_is); (case c20 => k_is); (case k20 => k_is)
    case d21 =>
      refine' Mp.dfn_mk (ps := ["_law_tape_here"]) ?a21 ?l21 ?c21 ?k21 (fun _ _ _ _ _ _ us hl => match us, hl with | [_], _ => rfl)
      (case a21 => k_is); (case l21 => k_is); (case c21 => k_is); (case k21 => k_is)
    case d22 =>
      refine' Mp.dfn_mk (ps := ["_law_thing"]) ?a22 ?l22 ?c22 ?k22 (fun _ _ _ _ _ _ us hl => match us, hl with | [_], _ => rfl)
      (case a22 => k_is); (case l22 => k_is); (case c22 => k_is); (case k22 => k_is)
    case d23 =>
      refine' Mp.dfn_mk (ps := ["_law_thing"]) ?a23 ?l23 ?c23 ?k23 (fun _ _ _ _ _ _ us hl => match us, hl with | [_], _ => rfl)
      (case a23 => k_is); (case l23 => k_is); (case c23 => k_is); (case k23 => k_is)
    case d24 =>
      refine' Mp.dfn_mk (ps := ["_law_thing"]) ?a24 ?l24 ?c24 ?k24 (fun _ _ _ _ _ _ us hl => match us, hl with | [_], _ => rfl)
      (case a24 => k_is); (case l24 => k_is); (case c24 => k_is); (case k24 => k_is)
    case d25 =>
      refine' Mp.dfn_mk (ps := ["_law_rows", "_law_n"]) ?a25 ?l25 ?c25 ?k25 (fun _ _ _ _ _ _ us hl => match us, hl with | [_, _], _ => rfl)
      (case a25 => k_is); (case l25 => k_is); (case c25 => k_is); (case k25 => k_is)
    case d26 =>
      refine' Mp.dfn_mk (ps := ["_law_thing"]) ?a26 ?l26 ?c26 ?k26 (fun _ _ _ _ _ _ us hl => match us, hl with | [_], _ => rfl)
      (case a26 => k_is); (case l26 => k_is); (case c26 => k_is); (case k26 => k_is)
    case d27 =>
      refine' Mp.dfn_mk (ps := ["_law_tape_here", "_law_rows", "_law_at"]) ?a27 ?l27 ?c27 ?k27 (fun _ _ _ _ _ _ us hl => match us, hl with | [_, _, _], _ => rfl)
      (case a27 => k_is); (case l27 => k_is); (case c27 => k_is); (case k27 => k_is)
    case d28 =>
      refine' Mp.dfn_mk (ps := ["_law_tape_here", "_law_rule_here"]) ?a28 ?l28 ?c28 ?k28 (fun _ _ _ _ _ _ us hl => match us, hl with | [_, _], _ => rfl)
      (case a28 => k_is); (case l28 => k_is); (case c28 => k_is); (case k28 => k_is)
    case d29 =>
      refine' Mp.dfn_mk (ps := ["_law_thing"]) ?a29 ?l29 ?c29 ?k29 (fun _ _ _ _ _ _ us hl => match us, hl with | [_], _ => rfl)
      (case a29 => k_is); (case l29 => k_is); (case c29 => k_is); (case k29 => k_is)
    case d30 =>
      refine' Mp.dfn_mk (ps := ["_law_script"]) ?a30 ?l30 ?c30 ?k30 (fun _ _ _ _ _ _ us hl => match us, hl with | [_], _ => rfl)
      (case a30 => k_is); (case l30 => k_is); (case c30 => k_is); (case k30 => k_is)
    case x0 =>
      refine' ⟨_, Mp.exat_mk (by decide) (by decide) ?aP ?lP ?a ?l ?kp ?sa ?ga ?gg ?ha ?hn ?ht ?nf⟩
      (case aP => k_is); (case lP => k_is); (case a => k_is); (case l => k_is); (case kp => k_is); (case sa => k_is); (case ga => k_is); (case gg => k_is); (case ha => k_is); (case hn => k_is); (case ht => k_is)
      (case nf => intro f hf; simp only [Mp.excF, List.mem_cons, List.not_mem_nil, or_false] at hf; first | exact hf.elim | (rcases hf with rfl | rfl <;> k_is) | (subst hf; k_is))
    case x1 =>
      refine' ⟨_, Mp.pace_mk ?a ?l ?kp ?sa ?ga ?gg ?ha ?hn ?ht⟩
      (case a => k_is); (case l => k_is); (case kp => k_is); (case sa => k_is); (case ga => k_is); (case gg => k_is); (case ha => k_is); (case hn => k_is); (case ht => k_is)
    case x2 =>
      refine' ⟨_, Mp.exat_mk (by decide) (by decide) ?aP ?lP ?a ?l ?kp ?sa ?ga ?gg ?ha ?hn ?ht ?nf⟩
      (case aP => k_is); (case lP => k_is); (case a => k_is); (case l => k_is); (case kp => k_is); (case sa => k_is); (case ga => k_is); (case gg => k_is); (case ha => k_is); (case hn => k_is); (case ht => k_is)
      (case nf => intro f hf; simp only [Mp.excF, List.mem_cons, List.not_mem_nil, or_false] at hf; first | exact hf.elim | (rcases hf with rfl | rfl <;> k_is) | (subst hf; k_is))
    case x3 =>
      refine' ⟨_, Mp.exat_mk (by decide) (by decide) ?aP ?lP ?a ?l ?kp ?sa ?ga ?gg ?ha ?hn ?ht ?nf⟩
      (case aP => k_is); (case lP => k_is); (case a => k_is); (case l => k_is); (case kp => k_is); (case sa => k_is); (case ga => k_is); (case gg => k_is); (case ha => k_is); (case hn => k_is); (case ht => k_is)
      (case nf => intro f hf; simp only [Mp.excF, List.mem_cons, List.not_mem_nil, or_false] at hf; first | exact hf.elim | (rcases hf with rfl | rfl <;> k_is) | (subst hf; k_is))
    case x4 =>
      refine' ⟨_, Mp.exat_mk (by decide) (by decide) ?aP ?lP ?a ?l ?kp ?sa ?ga ?gg ?ha ?hn ?ht ?nf⟩
      (case aP => k_is); (case lP => k_is); (case a => k_is); (case l => k_is); (case kp => k_is); (case sa => k_is); (case ga => k_is); (case gg => k_is); (case ha => k_is); (case hn => k_is); (case ht => k_is)
      (case nf => intro f hf; simp only [Mp.excF, List.mem_cons, List.not_mem_nil, or_false] at hf; first | exact hf.elim | (rcases hf with rfl | rfl <;> k_is) | (subst hf; k_is))
    case r0 =>
      refine' ⟨_, ?x, ?e⟩
      case x =>
        refine' Mp.exat_mk (by decide) (by decide) ?aP ?lP ?a ?l ?kp ?sa ?ga ?gg ?ha ?hn ?ht ?nf
        (case aP => k_is); (case lP => k_is); (case a => k_is); (case l => k_is); (case kp => k_is); (case sa => k_is); (case ga => k_is); (case gg => k_is); (case ha => k_is); (case hn => k_is); (case ht => k_is)
        (case nf => intro f hf; simp only [Mp.excF, List.mem_cons, List.not_mem_nil, or_false] at hf; first | exact hf.elim | (rcases hf with rfl | rfl <;> k_is) | (subst hf; k_is))
      case e => k_exc
    case r1 =>
      refine' Mp.init_mk (c := "NoRule") ?a ?g ?t ?l ?cd ?kp (fun _ _ _ _ _ _ us hl => match us, hl with | [_, _], _ => rfl) ?aP ?rP ?sP ?fP
      (case a => k_is); (case g => k_is); (case t => k_is); (case l => k_is); (case cd => k_is); (case kp => k_is); (case aP => k_is); (case rP => k_is); (case sP => k_is); (case fP => k_is)
    case v0 =>
      refine' Mp.globT_mk ?ga0 ?gl0 ?gc0 ?ge0 ?gs0 ?gf0
      (case ga0 => k_is); (case gl0 => k_is); (case gc0 => exact rfl); (case ge0 => exact rfl); (case gs0 => decide); (case gf0 => decide +kernel)

