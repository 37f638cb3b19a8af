import PyProof.Rows.All
import Wide.All
import OpenK.AllK
import Wide.FinOn
import HandS.ForMost
import HandS.Wide
import HandS.IsInst
import HandS.Deep
import HandS.Flow
import HandS.Defaults
import HandS.SortInts
import HandS.TupAny
import HandS.Small
import HandS.More
import HandS.Conv
import HandS.Iter
import HandS.Codes
import HandS.HeadEnd
import HandS.Head0
import HandS.Head1
import HandS.Head2
import HandS.HeadHook1
import HandS.HeadHook2
import HandS.HeadHook4
import KE.KStateDown
import PySem.Challenge.RW_movedrun_k38_objects_are_words
set_option Elab.async false
set_option linter.all false
section
/-! VI: a small deterministic language: values, a store of mutable objects, expressions, statements, functions. -/
set_option linter.all false
namespace VI

abbrev Txt := List Nat

/-- values: what never changes lies inline; what may change is a number in the store -/
inductive D where
  | non
  | bl (b : Bool)
  | int (i : Int)
  | str (s : Txt)
  | tup (l : List D)
  | lst (l : List D)
  | fro (l : List D)
  | ref (n : Nat)
  deriving Inhabited

/-- keys of dicts -/
abbrev Ky := Sum Int Txt
def D.ky : D → Option Ky
  | .int i => some (.inl i)
  | .str s => some (.inr s)
  | _ => none
def Ky.d : Ky → D
  | .inl i => .int i
  | .inr s => .str s

inductive Cell where
  | lst (l : List D)
  | dic (locked : Bool) (kvs : List (Ky × D))
  | ins (c : Nat) (fs : List (Nat × D))
  deriving Inhabited

abbrev St := List Cell
def M (α : Type) := St → Option (α × St)
def ret {α : Type} (a : α) : M α := fun s => some (a, s)
def fail {α : Type} : M α := fun _ => none
def bnd {α β : Type} (m : M α) (f : α → M β) : M β := fun s => match m s with
  | none => none
  | some (a, s') => f a s'
def opt {α : Type} (o : Option α) : M α := fun s => match o with
  | none => none
  | some a => some (a, s)

/-- the greatest length of a list, a text, a dict -/
def LINE : Nat := 16777216

/-! ### tables -/
def valK {α : Type} (kvs : List (Ky × α)) (k : Ky) : Option α := (kvs.find? fun kv => decide (kv.1 = k)).map (·.2)
def putK {α : Type} (kvs : List (Ky × α)) (k : Ky) (v : α) : List (Ky × α) :=
  if (kvs.any fun kv => decide (kv.1 = k)) = true then kvs.map (fun kv => if kv.1 = k then (kv.1, v) else kv) else kvs ++ [(k, v)]
def dropK {α : Type} (kvs : List (Ky × α)) (k : Ky) : List (Ky × α) := kvs.filter fun kv => decide (kv.1 ≠ k)
def valF (fs : List (Nat × D)) (f : Nat) : Option D := match fs with
  | [] => none
  | (g, d) :: r => if f = g then some d else valF r f
def putF (f : Nat) (v : D) : List (Nat × D) → List (Nat × D)
  | [] => [(f, v)]
  | (g, x) :: r => if g = f then (g, v) :: r else (g, x) :: putF f v r

/-! ### places -/
def ixN (n : Nat) (i : Int) : Option Nat := if 0 ≤ i then (if i < n then some i.toNat else none) else if -(n : Int) ≤ i then some (i + n).toNat else none
def atI {α : Type} (xs : List α) (i : Int) : Option α := (ixN xs.length i).bind fun j => xs[j]?
def sIx (n d : Nat) : Option Int → Nat
  | none => d
  | some v => if v < 0 then (v + (n : Int)).toNat else min v.toNat n
def cut {α : Type} (xs : List α) (lo hi : Option Int) : List α := (xs.drop (sIx xs.length 0 lo)).take (sIx xs.length xs.length hi - sIx xs.length 0 lo)

/-! ### data: no reference within -/
mutual
def D.pure : D → Bool
  | .str s => s.all fun c => decide (c < 1114112)
  | .tup l => pureAll l
  | .lst l => pureAll l
  | .fro _ => false
  | .ref _ => false
  | _ => true
def pureAll : List D → Bool
  | [] => true
  | d :: r => d.pure && pureAll r
end
mutual
def D.depth : D → Nat
  | .tup l => depthAll l + 1
  | .lst l => depthAll l + 1
  | _ => 0
def depthAll : List D → Nat
  | [] => 0
  | d :: r => max d.depth (depthAll r)
end
mutual
/-- == of data -/
def eqv : D → D → Bool
  | .non, .non => true
  | .bl a, .bl b => a == b
  | .bl a, .int j => (if a then (1 : Int) else 0) == j
  | .int i, .bl b => i == (if b then (1 : Int) else 0)
  | .int i, .int j => i == j
  | .str x, .str y => x == y
  | .lst xs, .lst ys => eqvAll xs ys
  | .tup xs, .tup ys => eqvAll xs ys
  | _, _ => false
def eqvAll : List D → List D → Bool
  | [], [] => true
  | x :: xs, y :: ys => eqv x y && eqvAll xs ys
  | _, _ => false
end
mutual
/-- all references within lie below n -/
def D.und (n : Nat) : D → Prop
  | .tup l => undAll n l
  | .lst l => undAll n l
  | .fro l => undAll n l
  | .ref k => k < n
  | _ => True
def undAll (n : Nat) : List D → Prop
  | [] => True
  | d :: r => D.und n d ∧ undAll n r
end
def Cell.und (n : Nat) : Cell → Prop
  | .lst l => undAll n l
  | .dic _ kvs => ∀ p ∈ kvs, p.2.und n
  | .ins _ fs => ∀ p ∈ fs, p.2.und n

/-! ### operations -/
/-- the items of a list: a value, or an object of the store -/
def lstOf (s : St) : D → Option (List D)
  | .lst l => some l
  | .ref n => match s[n]? with
    | some (.lst l) => some l
    | _ => none
  | _ => none
/-- the items of a list that is only read -/
def rdOf (s : St) : D → Option (List D)
  | .lst l => some l
  | .fro l => some l
  | .ref n => match s[n]? with
    | some (.lst l) => some l
    | _ => none
  | _ => none
/-- the items of a list or tuple -/
def seqOf (s : St) : D → Option (List D)
  | .lst l => some l
  | .fro l => some l
  | .tup l => some l
  | .ref n => match s[n]? with
    | some (.lst l) => some l
    | _ => none
  | _ => none
/-- a list object's value, one level deep -/
def whd (s : St) : D → D
  | .fro l => .lst l
  | .ref n => match s[n]? with
    | some (.lst l) => .lst l
    | _ => .ref n
  | d => d
def mk (own : Bool) (l : List D) : M D := fun s => if own = true then some (.ref s.length, s ++ [.lst l]) else some (.lst l, s)
def truthM (d : D) : M Bool := fun s => match d with
  | .non => some (false, s)
  | .bl b => some (b, s)
  | .int i => some (i != 0, s)
  | .str x => if x.length ≤ LINE then some (!x.isEmpty, s) else none
  | .tup l => some (!l.isEmpty, s)
  | .lst l => some (!l.isEmpty, s)
  | .fro l => some (!l.isEmpty, s)
  | .ref n => match s[n]? with
    | some (.lst l) => some (!l.isEmpty, s)
    | _ => none

inductive Bop where
  | add | sub | mul | fdiv | mod | pow | band
  deriving DecidableEq, Inhabited
def natLog (i : Int) : Nat := i.natAbs.log2
/-- int operations -/
def bopI (o : Bop) (i j : Int) : Option Int := match o with
  | .add => some (i + j)
  | .sub => some (i - j)
  | .mul => if natLog i + natLog j < 1000000 ∨ (-(2 ^ 64) < i ∧ i < 2 ^ 64) ∨ (-(2 ^ 64) < j ∧ j < 2 ^ 64) then some (i * j) else none
  | .fdiv => if 0 < j ∧ natLog j < 9000 then some (i / j) else none
  | .mod => if 0 < j then some (i % j) else none
  | .pow => if 0 ≤ j ∧ j ≤ 1000 ∧ i.natAbs < 2 ^ 64 then some (i ^ j.toNat) else none
  | .band => if 0 ≤ i ∧ 0 ≤ j then some ((i.toNat &&& j.toNat : Nat) : Int) else none
def bopM (o : Bop) (own : Bool) (a b : D) : M D := fun s => match a, b with
  | .int i, .int j => (bopI o i j).map fun k => (.int k, s)
  | .str x, .str y => match o with
    | .add => if x.length + y.length ≤ LINE then some (.str (x ++ y), s) else none
    | _ => none
  | .tup x, .tup y => match o with
    | .add => if x.length + y.length ≤ LINE then some (.tup (x ++ y), s) else none
    | _ => none
  | a, .int k => match o, lstOf s a with
    | .mul, some l => if -(2 ^ 63) ≤ k ∧ k < 2 ^ 63 ∧ l.length * k.toNat ≤ LINE then mk own (List.replicate k.toNat l).flatten s else none
    | _, _ => none
  | a, b => match o, lstOf s a, lstOf s b with
    | .add, some x, some y => if x.length + y.length ≤ LINE then mk own (x ++ y) s else none
    | _, _, _ => none

inductive Cop where
  | eq | ne | lt | le | gt | ge | is | isnot | mem | notmem
  deriving DecidableEq, Inhabited
/-- what == may be asked of -/
def eqOk (s : St) (a b : D) : Bool := (whd s a).pure && (whd s b).pure && decide ((whd s a).depth ≤ 60) && decide ((whd s b).depth ≤ 60)
def eqM (a b : D) (s : St) : Option Bool := match a, b with
  | .str x, .str y => some (x == y)
  | a, b => if eqOk s a b = true then some (eqv (whd s a) (whd s b)) else none
/-- no list, no tuple, no reference -/
def D.flat : D → Bool
  | .non => true
  | .bl _ => true
  | .int _ => true
  | .str _ => true
  | _ => false
/-- what «in a list, a tuple» may be asked of -/
def inOk (a : D) (l : List D) : Bool := (a.flat && l.all D.flat) || (a.pure && pureAll l && decide (a.depth ≤ 60) && decide (depthAll l ≤ 59))
/-- None, True, False: is tells them -/
def D.single : D → Bool
  | .non => true
  | .bl _ => true
  | _ => false
def D.isSame : D → D → Bool
  | .non, .non => true
  | .bl a, .bl b => a == b
  | _, _ => false
def inM (a b : D) (s : St) : Option Bool := match b with
  | .ref n => match s[n]? with
    | some (.dic _ kvs) => (D.ky a).map fun k => (valK kvs k).isSome
    | some (.lst l) => if inOk a l = true then some (l.any fun z => eqv z a) else none
    | _ => none
  | .lst l => if inOk a l = true then some (l.any fun z => eqv z a) else none
  | .tup l => if inOk a l = true then some (l.any fun z => eqv z a) else none
  | _ => none
def copM (o : Cop) (a b : D) : M Bool := fun s => match o with
  | .eq => (eqM a b s).map fun r => (r, s)
  | .ne => (eqM a b s).map fun r => (!r, s)
  | .is => if b.single = true then some (D.isSame a b, s) else none
  | .isnot => if b.single = true then some (!D.isSame a b, s) else none
  | .mem => (inM a b s).map fun r => (r, s)
  | .notmem => (inM a b s).map fun r => (!r, s)
  | .lt => match a, b with
    | .int i, .int j => some (decide (i < j), s)
    | _, _ => none
  | .le => match a, b with
    | .int i, .int j => some (decide (i ≤ j), s)
    | _, _ => none
  | .gt => match a, b with
    | .int i, .int j => some (decide (j < i), s)
    | _, _ => none
  | .ge => match a, b with
    | .int i, .int j => some (decide (j ≤ i), s)
    | _, _ => none

def idxM (a i : D) : M D := fun s => match a, i with
  | .tup l, .int k => (atI l k).map fun d => (d, s)
  | .lst l, .int k => (atI l k).map fun d => (d, s)
  | .fro l, .int k => (atI l k).map fun d => (d, s)
  | .str x, .int k => if x.length ≤ LINE then (atI x k).map fun c => (.str [c], s) else none
  | .ref n, i => match s[n]?, i with
    | some (.lst l), .int k => (atI l k).map fun d => (d, s)
    | some (.dic _ kvs), i => (D.ky i).bind fun k => (valK kvs k).map fun d => (d, s)
    | _, _ => none
  | _, _ => none
def partI (d : D) : M (Option Int) := fun s => match d with
  | .int i => some (some i, s)
  | _ => none
def slcM (own : Bool) (a : D) (l h : Option Int) : M D := fun s => match a with
  | .tup x => some (.tup (cut x l h), s)
  | .lst x => mk own (cut x l h) s
  | .fro x => mk own (cut x l h) s
  | .ref n => (match s[n]? with
    | some (.lst x) => mk own (cut x l h) s
    | _ => none)
  | _ => none
/-- the fields a class is asked for -/
abbrev Flds := Nat → Nat → Bool
def fldM (F : Flds) (a : D) (f : Nat) : M D := fun s => match a with
  | .ref n => (match s[n]? with
    | some (.ins c fs) => if F c f = true then (valF fs f).map fun d => (d, s) else none
    | _ => none)
  | _ => none
def setItemM (o i v : D) : M Unit := fun s => match o with
  | .ref n => (match s[n]?, i with
    | some (.lst l), .int k => (ixN l.length k).map fun j => ((), s.set n (.lst (l.set j v)))
    | some (.dic false kvs), i => (match D.ky i with
      | some k => if kvs.length < LINE then some ((), s.set n (.dic false (putK kvs k v))) else none
      | none => none)
    | _, _ => none)
  | _ => none
def setFldM (F : Flds) (o : D) (f : Nat) (v : D) : M Unit := fun s => match o with
  | .ref n => (match s[n]? with
    | some (.ins c fs) => if F c f = true then (if fs.length < 1000 then some ((), s.set n (.ins c (putF f v fs))) else none) else none
    | _ => none)
  | _ => none

inductive Ty where
  | int | bool | str | tuple | list | dict
  deriving DecidableEq, Inhabited
/-- isinstance(d, T) -/
def isTy (s : St) (d : D) (t : Ty) : Option Bool := match d with
  | .non => some false
  | .bl _ => some (match t with
    | .int => true
    | .bool => true
    | _ => false)
  | .int _ => some (decide (t = .int))
  | .str _ => some (decide (t = .str))
  | .tup _ => some (decide (t = .tuple))
  | .lst _ => some (decide (t = .list))
  | .fro _ => none
  | .ref n => match s[n]? with
    | some (.lst _) => some (decide (t = .list))
    | some (.dic _ _) => some (decide (t = .dict))
    | _ => none

/-- built-in functions -/
inductive Bi where
  | len | int | tuple | list | min | max | sum | sorted | all | any | abs | ord
  deriving DecidableEq, Inhabited
def intsOf : List D → Option (List Int)
  | [] => some []
  | .int i :: r => (intsOf r).map (i :: ·)
  | _ :: _ => none
def blsOf : List D → Option (List Bool)
  | [] => some []
  | .bl b :: r => (blsOf r).map (b :: ·)
  | _ :: _ => none
def insertI (i : Int) : List Int → List Int
  | [] => [i]
  | j :: r => if i ≤ j then i :: j :: r else j :: insertI i r
def sortI : List Int → List Int
  | [] => []
  | i :: r => insertI i (sortI r)
def keyInts : List (Ky × D) → Option (List Int)
  | [] => some []
  | (.inl i, _) :: r => (keyInts r).map (i :: ·)
  | _ :: _ => none
def biM (b : Bi) (own : Bool) (l : List D) : M D := fun s => match b, l with
  | .len, [d] => (match d with
    | .str x => if x.length ≤ LINE then some (.int x.length, s) else none
    | .tup x => some (.int x.length, s)
    | .lst x => some (.int x.length, s)
    | .fro x => some (.int x.length, s)
    | .ref n => (match s[n]? with
      | some (.lst x) => some (.int x.length, s)
      | some (.dic _ kvs) => some (.int kvs.length, s)
      | _ => none)
    | _ => none)
  | .int, [.int i] => some (.int i, s)
  | .int, [.bl b] => some (.int (if b then 1 else 0), s)
  | .tuple, [d] => (seqOf s d).map fun x => (.tup x, s)
  | .list, [d] => (match seqOf s d with
    | some x => mk own x s
    | none => none)
  | .min, [.int i, .int j] => some (.int (if j < i then j else i), s)
  | .max, [.int i, .int j] => some (.int (if j > i then j else i), s)
  | .sum, [d] => (rdOf s d).bind fun x => (intsOf x).map fun ns => (.int ns.sum, s)
  | .all, [d] => (rdOf s d).bind fun x => (blsOf x).map fun bs => (.bl (bs.all id), s)
  | .any, [d] => (rdOf s d).bind fun x => (blsOf x).map fun bs => (.bl (bs.any id), s)
  | .abs, [.int i] => some (.int (if i < 0 then -i else i), s)
  | .ord, [.str [c]] => some (.int c, s)
  | .sorted, [d] => (match rdOf s d with
    | some x => (match intsOf x with
      | some ns => mk own ((sortI ns).map D.int) s
      | none => none)
    | none => (match d with
      | .ref n => (match s[n]? with
        | some (.dic _ kvs) => (match keyInts kvs with
          | some ns => mk own ((sortI ns).map D.int) s
          | none => none)
        | _ => none)
      | _ => none))
  | _, _ => none

/-- methods of built-in types -/
inductive Bm where
  | append | extend | pop | get
  deriving DecidableEq, Inhabited
/-- whose method is asked -/
inductive Kd where
  | lst | dic
  deriving DecidableEq, Inhabited
def kindM (d : D) : M Kd := fun s => match d with
  | .ref n => (match s[n]? with
    | some (.lst _) => some (.lst, s)
    | some (.dic _ _) => some (.dic, s)
    | _ => none)
  | _ => none
def bmL (m : Bm) (n : Nat) (x : List D) (l : List D) (s : St) : Option (D × St) := match m, l with
  | .append, [d] => if x.length < LINE then some (.non, s.set n (.lst (x ++ [d]))) else none
  | .extend, [d] => (match lstOf s d with
    | some y => if x.length + y.length ≤ LINE then some (.non, s.set n (.lst (x ++ y))) else none
    | none => none)
  | .pop, [] => (match x[x.length - 1]? with
    | some d => some (d, s.set n (.lst x.dropLast))
    | none => none)
  | _, _ => none
def bmD (m : Bm) (n : Nat) (lk : Bool) (kvs : List (Ky × D)) (l : List D) (s : St) : Option (D × St) := match m, lk, l with
  | .pop, false, [k] => (D.ky k).bind fun k => (valK kvs k).map fun d => (d, s.set n (.dic false (dropK kvs k)))
  | .pop, false, [k, e] => (D.ky k).map fun k => (match valK kvs k with
    | some d => (d, s.set n (.dic false (dropK kvs k)))
    | none => (e, s))
  | .get, _, [k] => (D.ky k).map fun k => ((valK kvs k).getD .non, s)
  | .get, _, [k, e] => (D.ky k).map fun k => ((valK kvs k).getD e, s)
  | _, _, _ => none
def bmM (k : Kd) (m : Bm) (o : D) (l : List D) : M D := fun s => match o with
  | .ref n => (match k, s[n]? with
    | .lst, some (.lst x) => bmL m n x l s
    | .dic, some (.dic lk kvs) => bmD m n lk kvs l s
    | _, _ => none)
  | _ => none

/-- what a for walks -/
inductive It where
  | seq | range | zip | keys | values | items
  deriving DecidableEq, Inhabited
def rangeD (lo : Int) (n : Nat) : List D := (List.range n).map fun i => .int (lo + (i : Nat))
/-- the items walked, and the objects that must stay as they are meanwhile -/
def iterM (t : It) (l : List D) : M (List D × List (Nat × Cell)) := fun s => match t, l with
  | .seq, [d] => (match d with
    | .tup x => some ((x, []), s)
    | .lst x => some ((x, []), s)
    | .fro x => some ((x, []), s)
    | .str x => some ((x.map fun c => .str [c], []), s)
    | .ref n => (match s[n]? with
      | some (.lst x) => some ((x, [(n, .lst x)]), s)
      | _ => none)
    | _ => none)
  | .range, [.int hi] => if -(2 ^ 62) ≤ hi ∧ hi < 2 ^ 62 then some ((rangeD 0 hi.toNat, []), s) else none
  | .range, [.int lo, .int hi] => if -(2 ^ 62) ≤ lo ∧ lo < 2 ^ 62 ∧ -(2 ^ 62) ≤ hi ∧ hi < 2 ^ 62 then some ((rangeD lo (hi - lo).toNat, []), s) else none
  | _, _ => none

/-- a dict that is locked is walked -/
def iterD (t : It) (d : D) : M (List D × List (Nat × Cell)) := fun s => match d with
  | .ref n => (match t, s[n]? with
    | .keys, some (.dic true kvs) => some ((kvs.map fun p => p.1.d, []), s)
    | .values, some (.dic true kvs) => some ((kvs.map fun p => p.2, []), s)
    | _, _ => none)
  | _ => none
/-- the dict at n is locked while m runs -/
def lockM {α : Type} (n : Nat) (m : M α) : M α := fun s => match s[n]? with
  | some (.dic false kvs) => (match m (s.set n (.dic true kvs)) with
    | some (w, s2) => (match s2[n]? with
      | some (.dic true kvs') => some (w, s2.set n (.dic false kvs'))
      | _ => none)
    | none => none)
  | _ => none

/-! ### the language -/
inductive E where
  | slot (i : Nat)
  | cst (d : D)
  | bop (o : Bop) (own : Bool) (a b : E)
  | neg (a : E)
  | not (a : E)
  | and (l : List E)
  | or (l : List E)
  | cmp (o : Cop) (a b : E)
  | chain (o o' : Cop) (a b c : E)
  | ite (c a b : E)
  | tup (l : List E)
  | lst (own : Bool) (l : List E)
  | dic
  | idx (a i : E)
  | slc (own : Bool) (a : E) (kl : Bool) (lo : E) (kh : Bool) (hi : E)
  | fld (a : E) (f : Nat)
  | call (f : Nat) (l : List E) (ds : List D)
  | make (c : Nat) (l : List E) (ds : List D)
  | meth (a : E) (m : Nat) (l : List E) (ds : List D)
  | bi (b : Bi) (own : Bool) (l : List E)
  | bm (m : Bm) (a : E) (l : List E)
  | isi (a : E) (t : Ty)
  | comp (own : Bool) (elt : E) (t : List Nat) (tt : Bool) (it : It) (l : List E) (cs : List E)
  | bad
  deriving Inhabited
inductive T where
  | slot (i : Nat)
  | tup (l : List T)
  | sub (a i : E)
  | fld (a : E) (f : Nat)
  deriving Inhabited
inductive S where
  | asg (t : T) (e : E)
  | aug (t : T) (o : Bop) (e : E)
  | expr (e : E)
  | ret (e : E)
  | ife (c : E) (a b : List S)
  | whl (c : E) (b : List S)
  | for (t : T) (it : It) (l : List E) (b : List S)
  | ford (t : T) (it : It) (a : E) (b : List S)
  | brk
  | cont
  | pass
  | bad
  deriving Inhabited
structure Fn where
  np : Nat
  ns : Nat
  body : List S
  deriving Inhabited
structure Cls where
  init : Nat
  meths : List (Nat × Nat)
  flds : List Nat
  deriving Inhabited
structure Prog where
  fns : List Fn
  cls : List Cls
  deriving Inhabited
def Prog.meth (P : Prog) (c m : Nat) : Option Nat := match P.cls[c]? with
  | some k => k.meths.lookup m
  | none => none

def Prog.fld (P : Prog) : Flds := fun c f => match P.cls[c]? with
  | some k => k.flds.contains f
  | none => false

abbrev Env := List (Option D)
def slotD (ρ : Env) (i : Nat) : Option D := match ρ[i]? with
  | some (some d) => some d
  | _ => none
def wipe (ρ : Env) : List Nat → Env
  | [] => ρ
  | v :: vs => (wipe ρ vs).set v none
def setAll (ρ : Env) : List Nat → List D → Option Env
  | [], [] => some ρ
  | i :: is, d :: ds => setAll (ρ.set i (some d)) is ds
  | _, _ => none
/-- a comprehension's target -/
def setT (ρ : Env) (t : List Nat) (tt : Bool) (d : D) : Option Env := match tt, t, d with
  | false, [i], d => some (ρ.set i (some d))
  | true, t, .tup ds => setAll ρ t ds
  | _, _, _ => none

open Classical in
noncomputable def guard (g : List (Nat × Cell)) : M Unit := fun s => if ∀ p ∈ g, s[p.1]? = some p.2 then some ((), s) else none
/-- one item after another: a list is made -/
noncomputable def mapG (g : List (Nat × Cell)) (f : D → M (Option D)) : List D → List D → M (List D)
  | [], acc => bnd (guard g) fun _ => ret acc
  | d :: r, acc => bnd (guard g) fun _ => bnd (f d) fun o => match o with
    | none => mapG g f r acc
    | some y => if acc.length < LINE then mapG g f r (acc ++ [y]) else fail

mutual
noncomputable def evalE (P : Prog) (cl : Nat → List D → M D) : E → Env → M D
  | .slot i, ρ => opt (slotD ρ i)
  | .cst d, _ => ret d
  | .bop o own a b, ρ => bnd (evalE P cl a ρ) fun x => bnd (evalE P cl b ρ) fun y => bopM o own x y
  | .neg a, ρ => bnd (evalE P cl a ρ) fun x => match x with
    | .int i => ret (.int (-i))
    | _ => fail
  | .not a, ρ => bnd (evalE P cl a ρ) fun x => bnd (truthM x) fun b => ret (.bl (!b))
  | .and l, ρ => evalAnd P cl l ρ
  | .or l, ρ => evalOr P cl l ρ
  | .cmp o a b, ρ => bnd (evalE P cl a ρ) fun x => bnd (evalE P cl b ρ) fun y => bnd (copM o x y) fun r => ret (.bl r)
  | .chain o o' a b c, ρ => bnd (evalE P cl a ρ) fun x => bnd (evalE P cl b ρ) fun y => bnd (copM o x y) fun r =>
      if r = true then bnd (evalE P cl c ρ) fun z => bnd (copM o' y z) fun r => ret (.bl r) else ret (.bl false)
  | .ite c a b, ρ => bnd (evalE P cl c ρ) fun x => bnd (truthM x) fun k => if k = true then evalE P cl a ρ else evalE P cl b ρ
  | .tup l, ρ => bnd (evalEs P cl l ρ) fun ds => if ds.length ≤ LINE then ret (.tup ds) else fail
  | .lst own l, ρ => bnd (evalEs P cl l ρ) fun ds => if ds.length ≤ LINE then mk own ds else fail
  | .dic, _ => fun s => some (.ref s.length, s ++ [.dic false []])
  | .idx a i, ρ => bnd (evalE P cl a ρ) fun x => bnd (evalE P cl i ρ) fun y => idxM x y
  | .slc own a kl lo kh hi, ρ => bnd (evalE P cl a ρ) fun x => bnd (if kl = true then bnd (evalE P cl lo ρ) partI else ret none) fun y => bnd (if kh = true then bnd (evalE P cl hi ρ) partI else ret none) fun z => slcM own x y z
  | .fld a f, ρ => bnd (evalE P cl a ρ) fun x => fldM P.fld x f
  | .call f l ds, ρ => bnd (evalEs P cl l ρ) fun vs => cl f (vs ++ ds)
  | .make c l ds, ρ => bnd (evalEs P cl l ρ) fun vs => match P.cls[c]? with
    | some k => fun s => bnd (cl k.init (.ref s.length :: (vs ++ ds))) (fun r => match r with
      | .non => ret (.ref s.length)
      | _ => fail) (s ++ [.ins c []])
    | none => fail
  | .meth a m l ds, ρ => bnd (evalE P cl a ρ) fun x => match x with
    | .ref n => fun s => match s[n]? with
      | some (.ins c fs) => (match P.meth c m, valF fs m with
        | some f, none => bnd (evalEs P cl l ρ) (fun vs => cl f (.ref n :: (vs ++ ds))) s
        | _, _ => none)
      | _ => none
    | _ => fail
  | .bi b own l, ρ => bnd (evalEs P cl l ρ) fun vs => biM b own vs
  | .bm m a l, ρ => bnd (evalE P cl a ρ) fun x => bnd (kindM x) fun k => bnd (evalEs P cl l ρ) fun vs => bmM k m x vs
  | .isi a t, ρ => bnd (evalE P cl a ρ) fun x => fun s => (isTy s x t).map fun b => (.bl b, s)
  | .comp own elt t tt it l cs, ρ => bnd (evalEs P cl l ρ) fun vs => bnd (iterM it vs) fun w =>
      bnd (mapG w.2 (fun d => match setT (wipe ρ t) t tt d with
        | none => fail
        | some ρ' => bnd (evalTs P cl cs ρ') fun k => if k = true then bnd (evalE P cl elt ρ') fun y => ret (some y) else ret none) w.1 []) fun ys => mk own ys
  | .bad, _ => fail
noncomputable def evalEs (P : Prog) (cl : Nat → List D → M D) : List E → Env → M (List D)
  | [], _ => ret []
  | e :: r, ρ => bnd (evalE P cl e ρ) fun x => bnd (evalEs P cl r ρ) fun xs => ret (x :: xs)
noncomputable def evalAnd (P : Prog) (cl : Nat → List D → M D) : List E → Env → M D
  | [], _ => fail
  | e :: r, ρ => match r with
    | [] => evalE P cl e ρ
    | e' :: r' => bnd (evalE P cl e ρ) fun x => bnd (truthM x) fun k => if k = true then evalAnd P cl r ρ else ret x
noncomputable def evalOr (P : Prog) (cl : Nat → List D → M D) : List E → Env → M D
  | [], _ => fail
  | e :: r, ρ => match r with
    | [] => evalE P cl e ρ
    | e' :: r' => bnd (evalE P cl e ρ) fun x => bnd (truthM x) fun k => if k = true then ret x else evalOr P cl r ρ
/-- a clause's tests -/
noncomputable def evalTs (P : Prog) (cl : Nat → List D → M D) : List E → Env → M Bool
  | [], _ => ret true
  | e :: r, ρ => bnd (evalE P cl e ρ) fun x => bnd (truthM x) fun k => if k = true then evalTs P cl r ρ else ret false
end

inductive Fl where
  | next | brk | cont
  | ret (d : D)
  deriving Inhabited

def augI (o : Bop) (a b : D) : M D := fun s => match a, b with
  | .int i, .int j => (match o with
    | .add => some (.int (i + j), s)
    | .sub => some (.int (i - j), s)
    | _ => none)
  | _, _ => none

mutual
noncomputable def asgT (P : Prog) (cl : Nat → List D → M D) : T → D → Env → M Env
  | .slot i, d, ρ => ret (ρ.set i (some d))
  | .tup l, d, ρ => match d with
    | .tup ds => asgTs P cl l ds ρ
    | _ => fail
  | .sub a i, d, ρ => bnd (evalE P cl a ρ) fun x => bnd (evalE P cl i ρ) fun y => bnd (setItemM x y d) fun _ => ret ρ
  | .fld a f, d, ρ => bnd (evalE P cl a ρ) fun x => bnd (setFldM P.fld x f d) fun _ => ret ρ
noncomputable def asgTs (P : Prog) (cl : Nat → List D → M D) : List T → List D → Env → M Env
  | [], [], ρ => ret ρ
  | t :: ts, d :: ds, ρ => bnd (asgT P cl t d ρ) fun ρ' => asgTs P cl ts ds ρ'
  | [], _ :: _, _ => fail
  | _ :: _, [], _ => fail
end

/-- turns of a while -/
def whileN (c : Env → M Bool) (b : Env → M (Fl × Env)) : Nat → Env → M (Fl × Env)
  | 0, _ => fail
  | n + 1, ρ => bnd (c ρ) fun k => if k = true then bnd (b ρ) (fun w => match w.1 with
      | .brk => ret (.next, w.2)
      | .ret d => ret (.ret d, w.2)
      | _ => whileN c b n w.2) else ret (.next, ρ)
/-- turns of a for -/
noncomputable def forL (g : List (Nat × Cell)) (b : D → Env → M (Fl × Env)) : List D → Env → M (Fl × Env)
  | [], ρ => bnd (guard g) fun _ => ret (.next, ρ)
  | d :: r, ρ => bnd (guard g) fun _ => bnd (b d ρ) fun w => match w.1 with
      | .brk => ret (.next, w.2)
      | .ret d => ret (.ret d, w.2)
      | _ => forL g b r w.2
/-- the most turns of a while -/
def FUEL : Nat := 2 ^ 200

mutual
noncomputable def execS (P : Prog) (cl : Nat → List D → M D) : S → Env → M (Fl × Env)
  | .asg t e, ρ => bnd (evalE P cl e ρ) fun d => bnd (asgT P cl t d ρ) fun ρ' => ret (.next, ρ')
  | .aug t o e, ρ => match t with
    | .slot i => bnd (opt (slotD ρ i)) fun x => bnd (evalE P cl e ρ) fun y => bnd (augI o x y) fun z => ret (.next, ρ.set i (some z))
    | .fld a f => bnd (evalE P cl a ρ) fun q => bnd (fldM P.fld q f) fun x => bnd (evalE P cl e ρ) fun y => bnd (augI o x y) fun z => bnd (setFldM P.fld q f z) fun _ => ret (.next, ρ)
    | _ => fail
  | .expr e, ρ => bnd (evalE P cl e ρ) fun _ => ret (.next, ρ)
  | .ret e, ρ => bnd (evalE P cl e ρ) fun d => ret (.ret d, ρ)
  | .ife c a b, ρ => bnd (evalE P cl c ρ) fun x => bnd (truthM x) fun k => if k = true then execSs P cl a ρ else execSs P cl b ρ
  | .whl c b, ρ => whileN (fun ρ => bnd (evalE P cl c ρ) truthM) (fun ρ => execSs P cl b ρ) FUEL ρ
  | .for t it l b, ρ => bnd (evalEs P cl l ρ) fun vs => bnd (iterM it vs) fun w =>
      forL w.2 (fun d ρ => bnd (asgT P cl t d ρ) fun ρ' => execSs P cl b ρ') w.1 ρ
  | .ford t it a b, ρ => fun s => match evalE P cl a ρ s with
      | some (.ref n, _) => (match s[n]? with
        | some (.dic false _) => lockM n (bnd (evalE P cl a ρ) fun x => bnd (iterD it x) fun w => forL w.2 (fun d ρ => bnd (asgT P cl t d ρ) fun ρ' => execSs P cl b ρ') w.1 ρ) s
        | some (.dic true _) => bnd (evalE P cl a ρ) (fun x => bnd (iterD it x) fun w => forL w.2 (fun d ρ => bnd (asgT P cl t d ρ) fun ρ' => execSs P cl b ρ') w.1 ρ) s
        | _ => none)
      | _ => none
  | .brk, ρ => ret (.brk, ρ)
  | .cont, ρ => ret (.cont, ρ)
  | .pass, ρ => ret (.next, ρ)
  | .bad, _ => fail
noncomputable def execSs (P : Prog) (cl : Nat → List D → M D) : List S → Env → M (Fl × Env)
  | [], ρ => ret (.next, ρ)
  | s :: r, ρ => bnd (execS P cl s ρ) fun w => match w.1 with
    | .next => execSs P cl r w.2
    | _ => ret w
end

/-- behind a call: what the callee made is dropped, where nothing that stays holds it -/
def Drops (s : St) (d : D) (s' : St) : Prop := s.length ≤ s'.length ∧ d.und s.length ∧ ∀ i, i < s.length → s'[i]? = s[i]? ∨ ∀ c, s'[i]? = some c → c.und s.length
open Classical in
noncomputable def dropped (m : M D) : M D := fun s => match m s with
  | none => none
  | some (d, s') => if Drops s d s' then some (d, s'.take s.length) else some (d, s')
noncomputable def runFn (P : Prog) (cl : Nat → List D → M D) (f : Fn) (vs : List D) : M D :=
  if vs.length = f.np then bnd (execSs P cl f.body (vs.map some ++ List.replicate (f.ns - f.np) none)) fun w => match w.1 with
    | .ret d => ret d
    | .next => ret .non
    | _ => fail
  else fail
noncomputable def callAt (P : Prog) : Nat → Nat → List D → M D
  | 0, _, _ => fail
  | k + 1, f, vs => match P.fns[f]? with
    | some fn => dropped (runFn P (callAt P k) fn vs)
    | none => fail
end VI
end

section
set_option linter.all false
namespace VI
/-- what holds of an outcome -/
@[reducible] def Ty' {α : Type} (Q : α → St → Prop) : Type := Prop
def wpo {α : Type} (o : Option (α × St)) (Q : α → St → Prop) : Ty' Q := match o with
  | some (a, s) => Q a s
  | none => False
/-- what holds behind m, from s -/
def wp {α : Type} (m : M α) (Q : α → St → Prop) (s : St) : Prop := wpo (m s) Q
section
variable {α β : Type} {Q : α → St → Prop} {s : St}
theorem wpo_some {a : α} : wpo (some (a, s)) Q = Q a s := rfl
theorem wpo_none : wpo none Q = False := rfl
theorem wpo_ite {c : Prop} [Decidable c] {m m' : Option (α × St)} : wpo (if c then m else m') Q = if c then wpo m Q else wpo m' Q := by
  split <;> rfl
theorem wpo_map {o : Option β} {f : β → α × St} : wpo (o.map f) Q ↔ ∃ b, o = some b ∧ Q (f b).1 (f b).2 := by
  cases o with
  | none => exact ⟨False.elim, fun ⟨_, e, _⟩ => nomatch e⟩
  | some b => exact ⟨fun h => ⟨b, rfl, h⟩, fun ⟨_, e, h⟩ => by cases e; exact h⟩
theorem wpo_bind {o : Option β} {f : β → Option (α × St)} : wpo (o.bind f) Q ↔ ∃ b, o = some b ∧ wpo (f b) Q := by
  cases o with
  | none => exact ⟨False.elim, fun ⟨_, e, _⟩ => nomatch e⟩
  | some b => exact ⟨fun h => ⟨b, rfl, h⟩, fun ⟨_, e, h⟩ => by cases e; exact h⟩
theorem wp_ret {a : α} : wp (ret a) Q s = Q a s := rfl
theorem wp_fail : wp (fail : M α) Q s = False := rfl
theorem wp_bnd {m : M α} {f : α → M β} {Q : β → St → Prop} : wp (bnd m f) Q s = wp m (fun a s' => wp (f a) Q s') s := by
  unfold wp bnd
  cases m s with
  | none => rfl
  | some r => rfl
theorem wp_opt {o : Option α} : wp (opt o) Q s ↔ ∃ a, o = some a ∧ Q a s := by
  cases o with
  | none => exact ⟨False.elim, fun ⟨_, e, _⟩ => nomatch e⟩
  | some a => exact ⟨fun h => ⟨a, rfl, h⟩, fun ⟨_, e, h⟩ => by cases e; exact h⟩
theorem wp_iff {m : M α} : wp m Q s ↔ ∃ a s', m s = some (a, s') ∧ Q a s' := by
  unfold wp
  cases m s with
  | none => exact ⟨False.elim, fun ⟨_, _, e, _⟩ => nomatch e⟩
  | some r => exact ⟨fun h => ⟨r.1, r.2, rfl, h⟩, fun ⟨_, _, e, h⟩ => by cases e; exact h⟩
theorem wp_mono {m : M α} {Q' : α → St → Prop} (h : wp m Q s) (k : ∀ a s', Q a s' → Q' a s') : wp m Q' s := by
  obtain ⟨a, s', e, q⟩ := wp_iff.mp h
  exact wp_iff.mpr ⟨a, s', e, k a s' q⟩
theorem wp_of_eq {m : M α} {a : α} {s' : St} (e : m s = some (a, s')) : wp m Q s = Q a s' := by
  unfold wp; rw [e]; rfl
theorem wp_ite {c : Prop} [Decidable c] {m m' : M α} : wp (if c then m else m') Q s = if c then wp m Q s else wp m' Q s := by
  split <;> rfl
theorem wp_fun {m : St → Option (α × St)} : wp (fun s => m s) Q s = wpo (m s) Q := rfl
end
end VI
namespace VI
section
variable {s : St}
theorem wp_bop {o own a b} {Q : D → St → Prop} : wp (bopM o own a b) Q s = wpo (bopM o own a b s) Q := rfl
theorem wp_cop {o a b} {Q : Bool → St → Prop} : wp (copM o a b) Q s = wpo (copM o a b s) Q := rfl
theorem wp_truth {a} {Q : Bool → St → Prop} : wp (truthM a) Q s = wpo (truthM a s) Q := rfl
theorem wp_idx {a i} {Q : D → St → Prop} : wp (idxM a i) Q s = wpo (idxM a i s) Q := rfl
theorem wp_slc {own a i j} {Q : D → St → Prop} : wp (slcM own a i j) Q s = wpo (slcM own a i j s) Q := rfl
theorem wp_fld {F a i} {Q : D → St → Prop} : wp (fldM F a i) Q s = wpo (fldM F a i s) Q := rfl
theorem wp_part {a} {Q : Option Int → St → Prop} : wp (partI a) Q s = wpo (partI a s) Q := rfl
theorem wp_setItem {a i v} {Q : Unit → St → Prop} : wp (setItemM a i v) Q s = wpo (setItemM a i v s) Q := rfl
theorem wp_setFld {F a i v} {Q : Unit → St → Prop} : wp (setFldM F a i v) Q s = wpo (setFldM F a i v s) Q := rfl
theorem wp_bi {b own l} {Q : D → St → Prop} : wp (biM b own l) Q s = wpo (biM b own l s) Q := rfl
theorem wp_bm {k m o l} {Q : D → St → Prop} : wp (bmM k m o l) Q s = wpo (bmM k m o l s) Q := rfl
theorem wp_kind {o} {Q : Kd → St → Prop} : wp (kindM o) Q s = wpo (kindM o s) Q := rfl
theorem wp_mk {own l} {Q : D → St → Prop} : wp (mk own l) Q s = wpo (mk own l s) Q := rfl
theorem wp_iter {t l} {Q : List D × List (Nat × Cell) → St → Prop} : wp (iterM t l) Q s = wpo (iterM t l s) Q := rfl
theorem wp_aug {o a b} {Q : D → St → Prop} : wp (augI o a b) Q s = wpo (augI o a b s) Q := rfl
end
end VI
end

section
set_option Elab.async false
set_option linter.all false
set_option maxRecDepth 100000
set_option maxHeartbeats 1000000
namespace VIS
open PySem PySem.Spec PyProof.Rows L2

def toS (t : VI.Txt) : Str := ⟨t.toArray⟩
theorem toS_len (t : VI.Txt) : (toS t).length = t.length := by simp [toS, Str.length]
theorem toS_app (t u : VI.Txt) : toS t ++ toS u = toS (t ++ u) := by
  show (⟨t.toArray ++ u.toArray⟩ : Str) = ⟨(t ++ u).toArray⟩
  simp
theorem toS_inj {t u : VI.Txt} (h : toS t = toS u) : t = u := by
  have e : t.toArray = u.toArray := congrArg Str.cps h
  simpa using e
def kyK : VI.Ky → Key
  | .inl i => .inl i
  | .inr s => .inr (toS s)
theorem kyK_inj {a b : VI.Ky} (h : kyK a = kyK b) : a = b := by
  cases a <;> cases b <;> simp [kyK] at h ⊢
  · exact h
  · exact toS_inj h

/-- a world: how many objects of the store, where they lie, what is known of the heap -/
structure Wd where
  n : Nat
  μ : Nat → Addr
  H : Hp
def own (w : Wd) (a : Addr) : Prop := ∃ i, i < w.n ∧ w.μ i = a
def H0 : Hp := fun _ => none
/-- a list that no one changes, tracked -/
def TL (w : Wd) (a : Addr) (vs : List V) : Prop := w.H a = some (.lst vs) ∧ ¬ own w a
/-- a list, a tuple that no one changes -/
def SL (K : PySem.W.Frag) (w : Wd) (a : Addr) (vs : List V) : Prop := (Rd w.H a (.lst vs) ∧ ¬ own w a) ∨ SqL K H0 a vs
def ST (K : PySem.W.Frag) (w : Wd) (a : Addr) (vs : List V) : Prop := (Rd w.H a (.tup vs) ∧ ¬ own w a) ∨ SqT K H0 a vs
mutual
def VR (K : PySem.W.Frag) (w : Wd) : VI.D → V → Prop
  | .non, v => v = .non
  | .bl b, v => v = .bl b
  | .int i, v => v = .int i
  | .str s, v => v = .str (toS s)
  | .tup l, v => ∃ a vs, v = .ref a ∧ ST K w a vs ∧ VRs K w l vs
  | .lst l, v => ∃ a vs, v = .ref a ∧ TL w a vs ∧ VRs K w l vs
  | .fro l, v => ∃ a vs, v = .ref a ∧ SL K w a vs ∧ VRs K w l vs
  | .ref k, v => k < w.n ∧ v = .ref (w.μ k)
def VRs (K : PySem.W.Frag) (w : Wd) : List VI.D → List V → Prop
  | [], vs => vs = []
  | d :: r, vs => ∃ x xs, vs = x :: xs ∧ VR K w d x ∧ VRs K w r xs
end
/-- entries of a dict -/
def KR (K : PySem.W.Frag) (w : Wd) : List (VI.Ky × VI.D) → List (Key × V) → Prop
  | [], vs => vs = []
  | p :: r, vs => ∃ x xs, vs = (kyK p.1, x) :: xs ∧ VR K w p.2 x ∧ KR K w r xs
/-- attributes -/
def FR (nm : Nat → Str) (K : PySem.W.Frag) (w : Wd) : List (Nat × VI.D) → List (Str × V) → Prop
  | [], vs => vs = []
  | p :: r, vs => ∃ x xs, vs = (nm p.1, x) :: xs ∧ VR K w p.2 x ∧ FR nm K w r xs

/-- the names of a program: attributes and methods by number, classes by number -/
structure Nms where
  nm : Nat → Str
  cls : Nat → Addr
def CR (G : Nms) (K : PySem.W.Frag) (w : Wd) : VI.Cell → Addr → Prop
  | .lst l, a => ∃ vs, w.H a = some (.lst vs) ∧ VRs K w l vs
  | .dic lk kvs, a => ∃ vs, (if lk = true then ∃ o, w.H a = some (.frz o (.dK vs)) else w.H a = some (.dK vs)) ∧ KR K w kvs vs
  | .ins c fs, a => ∃ dx vs, w.H a = some (.ins (G.cls c) dx vs) ∧ FR G.nm K w fs vs
structure StR (G : Nms) (K : PySem.W.Frag) (w : Wd) (st : VI.St) : Prop where
  len : st.length = w.n
  inj : ∀ i j, i < w.n → j < w.n → w.μ i = w.μ j → i = j
  cell : ∀ i c, st[i]? = some c → CR G K w c (w.μ i)
def Sub (A B : Hp) : Prop := ∀ b o, A b = some o → B b = some o
structure Le (w w' : Wd) : Prop where
  n : w.n ≤ w'.n
  μ : ∀ i, i < w.n → w'.μ i = w.μ i
  keep : ∀ b o, w.H b = some o → ¬ own w b → w'.H b = some o
  new : ∀ i, w.n ≤ i → i < w'.n → w.H (w'.μ i) = none
  dom : ∀ b o, w.H b = some o → ∃ o', w'.H b = some o'
structure Step (w w' : Wd) (H H' : Hp) : Prop where
  le : Le w w'
  sub : Sub w'.H H'
  fr : ∀ b o, H b = some o → ¬ own w b → H' b = some o
  fresh : ∀ b o, w'.H b = some o → w.H b ≠ none ∨ H b = none
  dom : ∀ b o, H b = some o → ∃ o', H' b = some o'
  ownd : ∀ i, i < w'.n → ∃ o, w'.H (w'.μ i) = some o
  frz : ∀ b o u, H b = some (.frz o u) → H' b = some (.frz o u)
/-- a heap and a world at one moment -/
structure At (w : Wd) (H : Hp) : Prop where
  sub : Sub w.H H
  ownd : ∀ i, i < w.n → ∃ o, w.H (w.μ i) = some o

section
variable {G : Nms} {K : PySem.W.Frag} {w w1 w2 : Wd} {H H1 H2 : Hp} {st : VI.St}
theorem own_mono (l : Le w w1) {b : Addr} (h : own w b) : own w1 b := by
  obtain ⟨i, hi, e⟩ := h
  exact ⟨i, Nat.lt_of_lt_of_le hi l.n, (l.μ i hi).trans e⟩
theorem own_back (l : Le w w1) {b : Addr} {o : HO} (h : own w1 b) (e : w.H b = some o) : own w b := by
  obtain ⟨i, hi, q⟩ := h
  by_cases c : i < w.n
  · exact ⟨i, c, (l.μ i c).symm.trans q⟩
  · have z := l.new i (Nat.le_of_not_lt c) hi
    rw [q, e] at z
    cases z
theorem Le.refl (w : Wd) : Le w w := ⟨Nat.le_refl _, fun _ _ => rfl, fun _ _ h _ => h, fun i h1 h2 => absurd h2 (Nat.not_lt.mpr h1), fun _ o h => ⟨o, h⟩⟩
theorem Le.trans (a : Le w w1) (b : Le w1 w2) : Le w w2 := by
  refine ⟨Nat.le_trans a.n b.n, fun i hi => (b.μ i (Nat.lt_of_lt_of_le hi a.n)).trans (a.μ i hi), fun c o h ho => ?_, fun i h1 h2 => ?_, fun c o h => ?_⟩
  · exact b.keep c o (a.keep c o h ho) fun z => ho (own_back a z h)
  · cases q : w.H (w2.μ i) with
    | none => rfl
    | some o =>
      by_cases c : i < w1.n
      · have z := a.new i h1 c
        rw [← b.μ i c, q] at z
        cases z
      · obtain ⟨o', q'⟩ := a.dom _ o q
        have z := b.new i (Nat.le_of_not_lt c) h2
        rw [q'] at z
        cases z
  · obtain ⟨o', h'⟩ := a.dom c o h
    exact b.dom c o' h'
theorem Step.at_ (a : Step w w1 H H1) : At w1 H1 := ⟨a.sub, a.ownd⟩
theorem At.refl (a : At w H) : Step w w H H := ⟨Le.refl w, a.sub, fun _ _ h _ => h, fun b o h => .inl (fun z => by rw [h] at z; cases z), fun _ o h => ⟨o, h⟩, a.ownd, fun _ _ _ h => h⟩
theorem Step.trans (a : Step w w1 H H1) (b : Step w1 w2 H1 H2) : Step w w2 H H2 := by
  refine ⟨a.le.trans b.le, b.sub, fun c o h ho => ?_, fun c o h => ?_, fun c o h => ?_, b.ownd, fun c o u h => b.frz c o u (a.frz c o u h)⟩
  · refine b.fr c o (a.fr c o h ho) fun z => ?_
    obtain ⟨i, hi, q⟩ := z
    by_cases k : i < w.n
    · exact ho ⟨i, k, (a.le.μ i k).symm.trans q⟩
    · obtain ⟨o1, q1⟩ := a.ownd i hi
      have z := a.le.new i (Nat.le_of_not_lt k) hi
      rcases a.fresh _ _ q1 with f | f
      · exact f z
      · rw [q, h] at f; cases f
  · rcases b.fresh c o h with f | f
    · cases q : w1.H c with
      | none => exact absurd q f
      | some o1 => exact a.fresh c o1 q
    · refine .inr ?_
      cases q : H c with
      | none => rfl
      | some o1 =>
        obtain ⟨o2, q2⟩ := a.dom c o1 q
        rw [q2] at f; cases f
  · obtain ⟨o1, h1⟩ := a.dom c o h
    exact b.dom c o1 h1

theorem Rd_mono {a : Addr} {u : HO} (k : ∀ b o, w.H b = some o → ¬ own w b → w1.H b = some o) (h : Rd w.H a u) (n : ¬ own w a) : Rd w1.H a u := by
  rcases h with h | ⟨o, h⟩
  · exact .inl (k a _ h n)
  · exact .inr ⟨o, k a _ h n⟩
theorem Rd_some {H : Hp} {a : Addr} {u : HO} (h : Rd H a u) : ∃ o, H a = some o := by
  rcases h with h | ⟨o, h⟩ <;> exact ⟨_, h⟩
theorem SL.mono (l : Le w w1) {a : Addr} {vs : List V} (h : SL K w a vs) : SL K w1 a vs := by
  rcases h with ⟨h, n⟩ | h
  · obtain ⟨o, e⟩ := Rd_some h
    exact .inl ⟨Rd_mono l.keep h n, fun z => n (own_back l z e)⟩
  · exact .inr h
theorem TL.mono (l : Le w w1) {a : Addr} {vs : List V} (h : TL w a vs) : TL w1 a vs := ⟨l.keep _ _ h.1 h.2, fun z => h.2 (own_back l z h.1)⟩
theorem ST.mono (l : Le w w1) {a : Addr} {vs : List V} (h : ST K w a vs) : ST K w1 a vs := by
  rcases h with ⟨h, n⟩ | h
  · obtain ⟨o, e⟩ := Rd_some h
    exact .inl ⟨Rd_mono l.keep h n, fun z => n (own_back l z e)⟩
  · exact .inr h
mutual
theorem VR.mono (l : Le w w1) : ∀ {d : VI.D} {v : V}, VR K w d v → VR K w1 d v
  | .non, _, h => by simpa only [VR] using h
  | .bl _, _, h => by simpa only [VR] using h
  | .int _, _, h => by simpa only [VR] using h
  | .str _, _, h => by simpa only [VR] using h
  | .tup ds, v, h => by
    simp only [VR] at h ⊢
    obtain ⟨a, vs, e, s, r⟩ := h
    exact ⟨a, vs, e, s.mono l, VRs.mono l r⟩
  | .lst ds, v, h => by
    simp only [VR] at h ⊢
    obtain ⟨a, vs, e, s, r⟩ := h
    exact ⟨a, vs, e, s.mono l, VRs.mono l r⟩
  | .fro ds, v, h => by
    simp only [VR] at h ⊢
    obtain ⟨a, vs, e, s, r⟩ := h
    exact ⟨a, vs, e, s.mono l, VRs.mono l r⟩
  | .ref k, v, h => by
    simp only [VR] at h ⊢
    exact ⟨Nat.lt_of_lt_of_le h.1 l.n, by rw [l.μ k h.1]; exact h.2⟩
theorem VRs.mono (l : Le w w1) : ∀ {ds : List VI.D} {vs : List V}, VRs K w ds vs → VRs K w1 ds vs
  | [], _, h => by simpa only [VRs] using h
  | d :: r, vs, h => by
    simp only [VRs] at h ⊢
    obtain ⟨x, xs, e, h1, h2⟩ := h
    exact ⟨x, xs, e, VR.mono l h1, VRs.mono l h2⟩
end
theorem KR.mono (l : Le w w1) : ∀ {ds : List (VI.Ky × VI.D)} {vs : List (Key × V)}, KR K w ds vs → KR K w1 ds vs
  | [], _, h => h
  | p :: r, vs, h => by
    obtain ⟨x, xs, e, h1, h2⟩ := h
    exact ⟨x, xs, e, h1.mono l, KR.mono l h2⟩
theorem FR.mono {nm : Nat → Str} (l : Le w w1) : ∀ {ds : List (Nat × VI.D)} {vs : List (Str × V)}, FR nm K w ds vs → FR nm K w1 ds vs
  | [], _, h => h
  | p :: r, vs, h => by
    obtain ⟨x, xs, e, h1, h2⟩ := h
    exact ⟨x, xs, e, h1.mono l, FR.mono l h2⟩

/-! ### lists of values -/
theorem VRs.length : ∀ {ds : List VI.D} {vs : List V}, VRs K w ds vs → vs.length = ds.length
  | [], _, h => by simp only [VRs] at h; subst h; rfl
  | d :: r, vs, h => by
    simp only [VRs] at h
    obtain ⟨x, xs, rfl, _, h2⟩ := h
    rw [List.length_cons, List.length_cons, VRs.length h2]
theorem VRs.get : ∀ {ds : List VI.D} {vs : List V} {i : Nat} {d : VI.D}, VRs K w ds vs → ds[i]? = some d → ∃ v, vs[i]? = some v ∧ VR K w d v
  | [], _, _, _, _, e => by simp at e
  | d :: r, vs, 0, d', h, e => by
    simp only [VRs] at h
    obtain ⟨x, xs, rfl, h1, _⟩ := h
    simp at e
    subst e
    exact ⟨x, by simp, h1⟩
  | d :: r, vs, i + 1, d', h, e => by
    simp only [VRs] at h
    obtain ⟨x, xs, rfl, _, h2⟩ := h
    obtain ⟨v, e1, h3⟩ := VRs.get (i := i) h2 (by simpa using e)
    exact ⟨v, by simpa using e1, h3⟩
theorem VRs.append : ∀ {ds es : List VI.D} {vs us : List V}, VRs K w ds vs → VRs K w es us → VRs K w (ds ++ es) (vs ++ us)
  | [], _, _, _, h, k => by simp only [VRs] at h; subst h; exact k
  | d :: r, es, vs, us, h, k => by
    simp only [VRs] at h
    obtain ⟨x, xs, rfl, h1, h2⟩ := h
    show VRs K w (d :: (r ++ es)) (x :: (xs ++ us))
    simp only [VRs]
    exact ⟨x, _, rfl, h1, VRs.append h2 k⟩
theorem VRs.cons {d : VI.D} {v : V} {ds : List VI.D} {vs : List V} (h : VR K w d v) (k : VRs K w ds vs) : VRs K w (d :: ds) (v :: vs) := by
  simp only [VRs]
  exact ⟨v, vs, rfl, h, k⟩
theorem VRs.nil : VRs K w [] [] := by simp only [VRs]
theorem VRs.one {d : VI.D} {v : V} (h : VR K w d v) : VRs K w [d] [v] := .cons h .nil
theorem VRs.take : ∀ (n : Nat) {ds : List VI.D} {vs : List V}, VRs K w ds vs → VRs K w (ds.take n) (vs.take n)
  | 0, _, _, _ => by simp only [List.take_zero]; exact .nil
  | n + 1, [], _, h => by simp only [VRs] at h; subst h; exact .nil
  | n + 1, d :: r, vs, h => by
    simp only [VRs] at h
    obtain ⟨x, xs, rfl, h1, h2⟩ := h
    exact .cons h1 (VRs.take n h2)
theorem VRs.drop : ∀ (n : Nat) {ds : List VI.D} {vs : List V}, VRs K w ds vs → VRs K w (ds.drop n) (vs.drop n)
  | 0, _, _, h => h
  | n + 1, [], _, h => by simp only [VRs] at h; subst h; exact .nil
  | n + 1, d :: r, vs, h => by
    simp only [VRs] at h
    obtain ⟨x, xs, rfl, h1, h2⟩ := h
    exact VRs.drop n h2
theorem VRs.set {e : VI.D} {u : V} (k : VR K w e u) : ∀ (i : Nat) {ds : List VI.D} {vs : List V}, VRs K w ds vs → VRs K w (ds.set i e) (vs.set i u)
  | _, [], _, h => by simp only [VRs] at h; subst h; exact .nil
  | 0, d :: r, vs, h => by
    simp only [VRs] at h
    obtain ⟨x, xs, rfl, h1, h2⟩ := h
    exact .cons k h2
  | i + 1, d :: r, vs, h => by
    simp only [VRs] at h
    obtain ⟨x, xs, rfl, h1, h2⟩ := h
    exact .cons h1 (VRs.set k i h2)
theorem VRs.dropLast {ds : List VI.D} {vs : List V} (h : VRs K w ds vs) : VRs K w ds.dropLast vs.dropLast := by
  rw [List.dropLast_eq_take, List.dropLast_eq_take, h.length]
  exact h.take _
theorem VRs.rep {ds : List VI.D} {vs : List V} (h : VRs K w ds vs) : ∀ k : Nat, VRs K w (List.replicate k ds).flatten (List.replicate k vs).flatten
  | 0 => .nil
  | k + 1 => by
    rw [List.replicate_succ, List.replicate_succ, List.flatten_cons, List.flatten_cons]
    exact h.append (VRs.rep h k)
theorem ixN_eq (n : Nat) (i : Int) : VI.ixN n i = L2.ixN n i := rfl
theorem VRs.atI {ds : List VI.D} {vs : List V} {i : Int} {d : VI.D} (h : VRs K w ds vs) (e : VI.atI ds i = some d) : ∃ v, L2.atI vs i = some v ∧ VR K w d v := by
  unfold VI.atI at e
  unfold L2.atI
  rw [h.length, ← ixN_eq]
  cases q : VI.ixN ds.length i with
  | none => rw [q] at e; cases e
  | some j =>
    rw [q] at e
    exact h.get (i := j) e
theorem sIx_eq (n d : Nat) (o : Option Int) : VI.sIx n d o = HT.sIx n d o := by cases o <;> rfl
theorem VRs.cut {ds : List VI.D} {vs : List V} (lo hi : Option Int) (h : VRs K w ds vs) : VRs K w (VI.cut ds lo hi) (cutV vs lo hi) := by
  unfold VI.cut cutV
  rw [h.length, sIx_eq, sIx_eq]
  exact (h.drop _).take _
theorem VR.ty_none {v : V} : VR K w .non v ↔ v = .non := by simp only [VR]

/-! ### reading -/
theorem SL.sq (a : At w H) {p : Addr} {vs : List V} (h : SL K w p vs) : SqL K H p vs := by
  rcases h with ⟨h, _⟩ | h
  · rcases h with h | ⟨o, h⟩
    · exact .inl (.inl (a.sub _ _ h))
    · exact .inl (.inr ⟨o, a.sub _ _ h⟩)
  · rcases h with h | h
    · rcases h with h | ⟨o, h⟩ <;> cases h
    · exact .inr h
theorem ST.sq (a : At w H) {p : Addr} {vs : List V} (h : ST K w p vs) : SqT K H p vs := by
  rcases h with ⟨h, _⟩ | h
  · rcases h with h | ⟨o, h⟩
    · exact .inl (.inl (a.sub _ _ h))
    · exact .inl (.inr ⟨o, a.sub _ _ h⟩)
  · rcases h with h | h
    · rcases h with h | ⟨o, h⟩ <;> cases h
    · exact .inr h
/-- an object of the store that is a list -/
theorem StR.lst (s : StR G K w st) {k : Nat} {l : List VI.D} (e : st[k]? = some (.lst l)) : ∃ vs, w.H (w.μ k) = some (.lst vs) ∧ VRs K w l vs := s.cell k _ e
theorem StR.lt (s : StR G K w st) {k : Nat} {c : VI.Cell} (e : st[k]? = some c) : k < w.n := by
  rw [← s.len]
  exact (List.getElem?_eq_some_iff.mp e).1
/-- the items of a list value -/
theorem lstOf_ok (a : At w H) (s : StR G K w st) {d : VI.D} {v : V} {l : List VI.D} (r : VR K w d v) (e : VI.lstOf st d = some l) : ∃ p vs, v = .ref p ∧ H p = some (.lst vs) ∧ VRs K w l vs := by
  cases d with
  | lst l' =>
    simp only [VI.lstOf, Option.some.injEq] at e
    subst e
    simp only [VR] at r
    obtain ⟨p, vs, e, q, h⟩ := r
    exact ⟨p, vs, e, a.sub _ _ q.1, h⟩
  | ref n =>
    simp only [VR] at r
    simp only [VI.lstOf] at e
    cases q : st[n]? with
    | none => rw [q] at e; cases e
    | some c =>
      rw [q] at e
      cases c with
      | lst l' =>
        cases e
        obtain ⟨vs, h1, h2⟩ := s.lst q
        exact ⟨_, vs, r.2, a.sub _ _ h1, h2⟩
      | _ => cases e
  | _ => simp [VI.lstOf] at e
theorem rdOf_ok (a : At w H) (s : StR G K w st) {d : VI.D} {v : V} {l : List VI.D} (r : VR K w d v) (e : VI.rdOf st d = some l) : ∃ p vs, v = .ref p ∧ SqL K H p vs ∧ VRs K w l vs := by
  cases d with
  | lst l' =>
    obtain ⟨p, vs, e, q, h⟩ := lstOf_ok (l := l) a s r (by simpa [VI.lstOf, VI.rdOf] using e)
    exact ⟨p, vs, e, .of q, h⟩
  | ref n =>
    obtain ⟨p, vs, e, q, h⟩ := lstOf_ok (l := l) a s r (by simpa [VI.lstOf, VI.rdOf] using e)
    exact ⟨p, vs, e, .of q, h⟩
  | fro l' =>
    simp only [VI.rdOf, Option.some.injEq] at e
    subst e
    simp only [VR] at r
    obtain ⟨p, vs, e, q, h⟩ := r
    exact ⟨p, vs, e, q.sq a, h⟩
  | _ => simp [VI.rdOf] at e
theorem seqOf_ok (a : At w H) (s : StR G K w st) {d : VI.D} {v : V} {l : List VI.D} (r : VR K w d v) (e : VI.seqOf st d = some l) : ∃ p vs, v = .ref p ∧ (SqL K H p vs ∨ SqT K H p vs) ∧ VRs K w l vs := by
  cases d with
  | tup l' =>
    simp only [VI.seqOf, Option.some.injEq] at e
    subst e
    simp only [VR] at r
    obtain ⟨p, vs, e, q, h⟩ := r
    exact ⟨p, vs, e, .inr (q.sq a), h⟩
  | lst l' =>
    obtain ⟨p, vs, e, q, h⟩ := rdOf_ok (l := l) a s r (by simpa [VI.rdOf, VI.seqOf] using e)
    exact ⟨p, vs, e, .inl q, h⟩
  | fro l' =>
    obtain ⟨p, vs, e, q, h⟩ := rdOf_ok (l := l) a s r (by simpa [VI.rdOf, VI.seqOf] using e)
    exact ⟨p, vs, e, .inl q, h⟩
  | ref n =>
    obtain ⟨p, vs, e, q, h⟩ := rdOf_ok (l := l) a s r (by simpa [VI.rdOf, VI.seqOf] using e)
    exact ⟨p, vs, e, .inl q, h⟩
  | _ => simp [VI.seqOf] at e
end
end VIS
end

section
set_option Elab.async false
set_option linter.all false
set_option maxRecDepth 100000
set_option maxHeartbeats 1000000
namespace VIS
open PySem PySem.Spec PyProof.Rows L2
section
variable {G : Nms} {K : PySem.W.Frag} {w w1 w2 : Wd} {H H1 H2 : Hp} {st : VI.St}

/-! ### the store changes -/
theorem CR.mono (l : Le w w1) {c : VI.Cell} {a : Addr} (e : w1.H a = w.H a) (h : CR G K w c a) : CR G K w1 c a := by
  cases c with
  | lst l' =>
    obtain ⟨vs, h1, h2⟩ := h
    exact ⟨vs, e.trans h1, h2.mono l⟩
  | dic lk kvs =>
    obtain ⟨vs, h1, h2⟩ := h
    refine ⟨vs, ?_, h2.mono l⟩
    rw [e]
    exact h1
  | ins c fs =>
    obtain ⟨dx, vs, h1, h2⟩ := h
    exact ⟨dx, vs, e.trans h1, h2.mono l⟩
/-- the object k is changed -/
theorem step_set (a : At w H) (s : StR G K w st) {k : Nat} {c c' : VI.Cell} {o : HO} (e : st[k]? = some c) (nf : ∀ o' u, H (w.μ k) ≠ some (.frz o' u)) (hc : ∀ w', Le w w' → w'.H (w.μ k) = some o → w'.n = w.n → w'.μ = w.μ → CR G K w' c' (w.μ k)) :
    ∃ w', Step w w' H (upd H (w.μ k) o) ∧ StR G K w' (st.set k c') ∧ w'.n = w.n ∧ w'.μ = w.μ := by
  have hk := s.lt e
  have ow : own w (w.μ k) := ⟨k, hk, rfl⟩
  obtain ⟨o0, q0⟩ := a.ownd k hk
  have le : Le w ⟨w.n, w.μ, upd w.H (w.μ k) o⟩ := by
    refine ⟨Nat.le_refl _, fun _ _ => rfl, fun b o' h n => ?_, fun i h1 h2 => absurd h2 (Nat.not_lt.mpr h1), fun b o' h => ?_⟩
    · show upd w.H (w.μ k) o b = some o'
      rw [upd_ne (fun z => n (by rw [z]; exact ow))]
      exact h
    · show ∃ o', upd w.H (w.μ k) o b = some o'
      by_cases z : b = w.μ k
      · subst z; exact ⟨_, upd_same⟩
      · rw [upd_ne z]; exact ⟨_, h⟩
  refine ⟨⟨w.n, w.μ, upd w.H (w.μ k) o⟩, ⟨le, fun b o' h => ?_, fun b o' h n => ?_, fun b o' h => ?_, fun b o' h => ?_, fun i hi => ?_, fun b o' u h => by rw [upd_ne (fun z => nf o' u (by rw [← z]; exact h))]; exact h⟩, ⟨by rw [List.length_set]; exact s.len, s.inj, fun i c0 h => ?_⟩, rfl, rfl⟩
  · have h : upd w.H (w.μ k) o b = some o' := h
    by_cases z : b = w.μ k
    · subst z; rw [upd_same] at h ⊢; exact h
    · rw [upd_ne z] at h ⊢; exact a.sub _ _ h
  · rw [upd_ne (fun z => n (by rw [z]; exact ow))]; exact h
  · have h : upd w.H (w.μ k) o b = some o' := h
    refine .inl fun q => ?_
    by_cases z : b = w.μ k
    · subst z; rw [q0] at q; cases q
    · rw [upd_ne z, q] at h; cases h
  · by_cases z : b = w.μ k
    · subst z; exact ⟨_, upd_same⟩
    · rw [upd_ne z]; exact ⟨_, h⟩
  · show ∃ o', upd w.H (w.μ k) o (w.μ i) = some o'
    by_cases z : w.μ i = w.μ k
    · rw [z]; exact ⟨_, upd_same⟩
    · rw [upd_ne z]; exact a.ownd i hi
  · show CR G K ⟨w.n, w.μ, upd w.H (w.μ k) o⟩ c0 (w.μ i)
    have hi : i < w.n := by
      rw [← s.len]
      have := (List.getElem?_eq_some_iff.mp h).1
      rwa [List.length_set] at this
    by_cases z : i = k
    · subst z
      rw [List.getElem?_set_self (by rw [s.len]; exact hk)] at h
      cases h
      exact hc _ le upd_same rfl rfl
    · rw [List.getElem?_set_ne (fun q => z q.symm)] at h
      refine (s.cell i c0 h).mono le ?_
      show upd w.H (w.μ k) o (w.μ i) = _
      rw [upd_ne (fun q => z (s.inj i k hi hk q))]
/-- a new value that no one changes -/
theorem step_val (a : At w H) (s : StR G K w st) {p : Addr} {o : HO} (np : H p = none) :
    ∃ w', Step w w' H (upd H p o) ∧ StR G K w' st ∧ w'.H p = some o ∧ ¬ own w' p := by
  have nw : w.H p = none := by
    cases q : w.H p with
    | none => rfl
    | some o1 => rw [a.sub _ _ q] at np; cases np
  have no : ¬ own w p := fun ⟨i, hi, e⟩ => by
    obtain ⟨o1, q⟩ := a.ownd i hi
    rw [e, nw] at q; cases q
  have le : Le w ⟨w.n, w.μ, upd w.H p o⟩ := by
    refine ⟨Nat.le_refl _, fun _ _ => rfl, fun b o' h n => ?_, fun i h1 h2 => absurd h2 (Nat.not_lt.mpr h1), fun b o' h => ?_⟩
    · show upd w.H p o b = some o'
      rw [upd_ne (ne_of_none h nw)]; exact h
    · show ∃ o', upd w.H p o b = some o'
      rw [upd_ne (ne_of_none h nw)]; exact ⟨_, h⟩
  refine ⟨⟨w.n, w.μ, upd w.H p o⟩, ⟨le, fun b o' h => ?_, fun b o' h n => ?_, fun b o' h => ?_, fun b o' h => ?_, fun i hi => ?_, fun b o' u h => by rw [upd_ne (ne_of_none h np)]; exact h⟩, ⟨s.len, s.inj, fun i c0 h => ?_⟩, upd_same, no⟩
  · have h : upd w.H p o b = some o' := h
    by_cases z : b = p
    · subst z; rw [upd_same] at h ⊢; exact h
    · rw [upd_ne z] at h ⊢; exact a.sub _ _ h
  · rw [upd_ne (ne_of_none h np)]; exact h
  · have h : upd w.H p o b = some o' := h
    by_cases z : b = p
    · subst z; exact .inr np
    · rw [upd_ne z] at h
      exact .inl fun q => by rw [q] at h; cases h
  · rw [upd_ne (ne_of_none h np)]; exact ⟨_, h⟩
  · show ∃ o', upd w.H p o (w.μ i) = some o'
    rw [upd_ne (fun z => no ⟨i, hi, z⟩)]; exact a.ownd i hi
  · refine (s.cell i c0 h).mono le ?_
    show upd w.H p o (w.μ i) = _
    rw [upd_ne (fun z => no ⟨i, s.lt h, z⟩)]
/-- a new object of the store -/
theorem step_new (a : At w H) (s : StR G K w st) {p : Addr} {o : HO} {c : VI.Cell} (np : H p = none) (hc : ∀ w', Le w w' → w'.H p = some o → CR G K w' c p) :
    ∃ w', Step w w' H (upd H p o) ∧ StR G K w' (st ++ [c]) ∧ VR K w' (.ref st.length) (.ref p) ∧ w'.n = w.n + 1 ∧ w'.μ w.n = p := by
  have nw : w.H p = none := by
    cases q : w.H p with
    | none => rfl
    | some o1 => rw [a.sub _ _ q] at np; cases np
  have no : ¬ own w p := fun ⟨i, hi, e⟩ => by
    obtain ⟨o1, q⟩ := a.ownd i hi
    rw [e, nw] at q; cases q
  obtain ⟨w', hw⟩ : ∃ w' : Wd, w' = ⟨w.n + 1, fun i => if i = w.n then p else w.μ i, upd w.H p o⟩ := ⟨_, rfl⟩
  have e1 : w'.n = w.n + 1 := by rw [hw]
  have e2 : ∀ i, i < w.n → w'.μ i = w.μ i := fun i hi => by
    rw [hw]
    show (if i = w.n then p else w.μ i) = _
    rw [if_neg (Nat.ne_of_lt hi)]
  have e3 : w'.μ w.n = p := by
    rw [hw]
    show (if w.n = w.n then p else w.μ w.n) = _
    rw [if_pos rfl]
  have e4 : w'.H = upd w.H p o := by rw [hw]
  have le : Le w w' := by
    refine ⟨by omega, e2, fun b o' h n => ?_, fun i h1 h2 => ?_, fun b o' h => ?_⟩
    · rw [e4, upd_ne (ne_of_none h nw)]; exact h
    · have : i = w.n := by omega
      subst this
      rw [e3]; exact nw
    · rw [e4, upd_ne (ne_of_none h nw)]; exact ⟨_, h⟩
  have eo : ∀ i, i < w.n → w'.H (w'.μ i) = w.H (w.μ i) := fun i hi => by
    rw [e4, e2 i hi, upd_ne (fun z => no ⟨i, hi, z⟩)]
  refine ⟨w', ⟨le, fun b o' h => ?_, fun b o' h n => ?_, fun b o' h => ?_, fun b o' h => ?_, fun i hi => ?_, fun b o' u h => by rw [upd_ne (ne_of_none h np)]; exact h⟩, ⟨by rw [List.length_append, List.length_singleton, s.len, e1], fun i j hi hj e => ?_, fun i c0 h => ?_⟩, ?_, e1, e3⟩
  · rw [e4] at h
    by_cases z : b = p
    · subst z; rw [upd_same] at h ⊢; exact h
    · rw [upd_ne z] at h ⊢; exact a.sub _ _ h
  · rw [upd_ne (ne_of_none h np)]; exact h
  · rw [e4] at h
    by_cases z : b = p
    · subst z; exact .inr np
    · rw [upd_ne z] at h
      exact .inl fun q => by rw [q] at h; cases h
  · rw [upd_ne (ne_of_none h np)]; exact ⟨_, h⟩
  · by_cases c : i < w.n
    · rw [eo i c]; exact a.ownd i c
    · have : i = w.n := by omega
      subst this
      rw [e3, e4]; exact ⟨_, upd_same⟩
  · by_cases ci : i < w.n
    · by_cases cj : j < w.n
      · rw [e2 i ci, e2 j cj] at e; exact s.inj i j ci cj e
      · have : j = w.n := by omega
        subst this
        rw [e2 i ci, e3] at e
        exact absurd ⟨i, ci, e⟩ no
    · have : i = w.n := by omega
      subst this
      by_cases cj : j < w.n
      · rw [e3, e2 j cj] at e
        exact absurd ⟨j, cj, e.symm⟩ no
      · omega
  · by_cases ci : i < st.length
    · rw [List.getElem?_append_left ci] at h
      have ci' : i < w.n := by rw [← s.len]; exact ci
      rw [e2 i ci']
      refine (s.cell i c0 h).mono le ?_
      rw [← e2 i ci', eo i ci', e2 i ci']
    · have hi := (List.getElem?_eq_some_iff.mp h).1
      rw [List.length_append, List.length_singleton] at hi
      have : i = st.length := by omega
      subst this
      rw [List.getElem?_append_right (Nat.le_refl _), Nat.sub_self] at h
      cases h
      rw [s.len, e3]
      exact hc w' le (by rw [e4]; exact upd_same)
  · simp only [VR]
    exact ⟨by rw [s.len, e1]; omega, by rw [s.len, e3]⟩

/-! ### what a callee made is dropped -/
mutual
theorem VR.und_of : ∀ {d : VI.D} {v : V}, VR K w d v → d.und w.n
  | .non, _, _ => by simp only [VI.D.und]
  | .bl _, _, _ => by simp only [VI.D.und]
  | .int _, _, _ => by simp only [VI.D.und]
  | .str _, _, _ => by simp only [VI.D.und]
  | .tup ds, v, h => by
    simp only [VR] at h
    simp only [VI.D.und]
    obtain ⟨a, vs, e, s, r⟩ := h
    exact VRs.und_of r
  | .lst ds, v, h => by
    simp only [VR] at h
    simp only [VI.D.und]
    obtain ⟨a, vs, e, s, r⟩ := h
    exact VRs.und_of r
  | .fro ds, v, h => by
    simp only [VR] at h
    simp only [VI.D.und]
    obtain ⟨a, vs, e, s, r⟩ := h
    exact VRs.und_of r
  | .ref k, v, h => by
    simp only [VR] at h
    simp only [VI.D.und]
    exact h.1
theorem VRs.und_of : ∀ {ds : List VI.D} {vs : List V}, VRs K w ds vs → VI.undAll w.n ds
  | [], _, _ => by simp only [VI.undAll]
  | d :: r, vs, h => by
    simp only [VRs] at h
    simp only [VI.undAll]
    obtain ⟨x, xs, e, h1, h2⟩ := h
    exact ⟨VR.und_of h1, VRs.und_of h2⟩
end
theorem KR.und_of : ∀ {ds : List (VI.Ky × VI.D)} {vs : List (Key × V)}, KR K w ds vs → ∀ p ∈ ds, p.2.und w.n
  | [], _, _, p, hp => by cases hp
  | q :: r, vs, h, p, hp => by
    obtain ⟨x, xs, e, h1, h2⟩ := h
    rcases List.mem_cons.mp hp with z | z
    · subst z; exact h1.und_of
    · exact KR.und_of h2 p z
theorem FR.und_of {nm : Nat → Str} : ∀ {ds : List (Nat × VI.D)} {vs : List (Str × V)}, FR nm K w ds vs → ∀ p ∈ ds, p.2.und w.n
  | [], _, _, p, hp => by cases hp
  | q :: r, vs, h, p, hp => by
    obtain ⟨x, xs, e, h1, h2⟩ := h
    rcases List.mem_cons.mp hp with z | z
    · subst z; exact h1.und_of
    · exact FR.und_of h2 p z
theorem CR.und_of {c : VI.Cell} {a : Addr} (h : CR G K w c a) : c.und w.n := by
  cases c with
  | lst l => obtain ⟨vs, _, r⟩ := h; exact r.und_of
  | dic lk kvs => obtain ⟨vs, _, r⟩ := h; exact r.und_of
  | ins c fs => obtain ⟨dx, vs, _, r⟩ := h; exact r.und_of

/-- a world with fewer objects -/
def Wd.cutTo (w : Wd) (n : Nat) : Wd := ⟨n, w.μ, w.H⟩
theorem own_cut {n : Nat} (hn : n ≤ w.n) {b : Addr} (h : own (w.cutTo n) b) : own w b := by
  obtain ⟨i, hi, e⟩ := h
  exact ⟨i, Nat.lt_of_lt_of_le hi hn, e⟩
mutual
theorem VR.cutW {n : Nat} (hn : n ≤ w.n) : ∀ {d : VI.D} {v : V}, VR K w d v → d.und n → VR K (w.cutTo n) d v
  | .non, _, h, _ => by simpa only [VR] using h
  | .bl _, _, h, _ => by simpa only [VR] using h
  | .int _, _, h, _ => by simpa only [VR] using h
  | .str _, _, h, _ => by simpa only [VR] using h
  | .tup ds, v, h, u => by
    simp only [VR] at h ⊢
    simp only [VI.D.und] at u
    obtain ⟨a, vs, e, s, r⟩ := h
    refine ⟨a, vs, e, ?_, VRs.cutW hn r u⟩
    rcases s with ⟨s, o⟩ | s
    · exact .inl ⟨s, fun z => o (own_cut hn z)⟩
    · exact .inr s
  | .lst ds, v, h, u => by
    simp only [VR] at h ⊢
    simp only [VI.D.und] at u
    obtain ⟨a, vs, e, s, r⟩ := h
    exact ⟨a, vs, e, ⟨s.1, fun z => s.2 (own_cut hn z)⟩, VRs.cutW hn r u⟩
  | .fro ds, v, h, u => by
    simp only [VR] at h ⊢
    simp only [VI.D.und] at u
    obtain ⟨a, vs, e, s, r⟩ := h
    refine ⟨a, vs, e, ?_, VRs.cutW hn r u⟩
    rcases s with ⟨s, o⟩ | s
    · exact .inl ⟨s, fun z => o (own_cut hn z)⟩
    · exact .inr s
  | .ref k, v, h, u => by
    simp only [VR] at h ⊢
    simp only [VI.D.und] at u
    exact ⟨u, h.2⟩
theorem VRs.cutW {n : Nat} (hn : n ≤ w.n) : ∀ {ds : List VI.D} {vs : List V}, VRs K w ds vs → VI.undAll n ds → VRs K (w.cutTo n) ds vs
  | [], _, h, _ => by simpa only [VRs] using h
  | d :: r, vs, h, u => by
    simp only [VRs] at h ⊢
    simp only [VI.undAll] at u
    obtain ⟨x, xs, e, h1, h2⟩ := h
    exact ⟨x, xs, e, VR.cutW hn h1 u.1, VRs.cutW hn h2 u.2⟩
end
theorem KR.cutW {n : Nat} (hn : n ≤ w.n) : ∀ {ds : List (VI.Ky × VI.D)} {vs : List (Key × V)}, KR K w ds vs → (∀ p ∈ ds, p.2.und n) → KR K (w.cutTo n) ds vs
  | [], _, h, _ => h
  | q :: r, vs, h, u => by
    obtain ⟨x, xs, e, h1, h2⟩ := h
    exact ⟨x, xs, e, h1.cutW hn (u q (List.mem_cons_self ..)), KR.cutW hn h2 fun p hp => u p (List.mem_cons_of_mem _ hp)⟩
theorem FR.cutW {nm : Nat → Str} {n : Nat} (hn : n ≤ w.n) : ∀ {ds : List (Nat × VI.D)} {vs : List (Str × V)}, FR nm K w ds vs → (∀ p ∈ ds, p.2.und n) → FR nm K (w.cutTo n) ds vs
  | [], _, h, _ => h
  | q :: r, vs, h, u => by
    obtain ⟨x, xs, e, h1, h2⟩ := h
    exact ⟨x, xs, e, h1.cutW hn (u q (List.mem_cons_self ..)), FR.cutW hn h2 fun p hp => u p (List.mem_cons_of_mem _ hp)⟩
theorem CR.cutW {n : Nat} (hn : n ≤ w.n) {c : VI.Cell} {a : Addr} (h : CR G K w c a) (u : c.und n) : CR G K (w.cutTo n) c a := by
  cases c with
  | lst l => obtain ⟨vs, q, r⟩ := h; exact ⟨vs, q, r.cutW hn u⟩
  | dic lk kvs => obtain ⟨vs, q, r⟩ := h; exact ⟨vs, q, r.cutW hn u⟩
  | ins c fs => obtain ⟨dx, vs, q, r⟩ := h; exact ⟨dx, vs, q, r.cutW hn u⟩
/-- behind a call -/
theorem step_drop {st1 : VI.St} {d : VI.D} {v : V} (s : StR G K w st) (p : Step w w1 H H1) (s1 : StR G K w1 st1) (r : VR K w1 d v) (dr : VI.Drops st d st1) :
    ∃ w', Step w w' H H1 ∧ StR G K w' (st1.take st.length) ∧ VR K w' d v := by
  obtain ⟨d1, d2, d3⟩ := dr
  have hn : w.n ≤ w1.n := p.le.n
  rw [s.len] at d2 d3 ⊢
  refine ⟨w1.cutTo w.n, ⟨⟨Nat.le_refl _, p.le.μ, p.le.keep, fun i h1 h2 => absurd h2 (Nat.not_lt.mpr h1), p.le.dom⟩, p.sub, p.fr, p.fresh, p.dom, fun i hi => p.ownd i (Nat.lt_of_lt_of_le hi hn), p.frz⟩,
    ⟨by rw [List.length_take, s1.len]; exact Nat.min_eq_left hn, fun i j hi hj => s1.inj i j (Nat.lt_of_lt_of_le hi hn) (Nat.lt_of_lt_of_le hj hn), fun i c h => ?_⟩, r.cutW hn d2⟩
  have hi : i < w.n := by
    have := (List.getElem?_eq_some_iff.mp h).1
    rw [List.length_take] at this
    omega
  rw [List.getElem?_take_of_lt hi] at h
  refine (s1.cell i c h).cutW hn ?_
  rcases d3 i hi with q | q
  · rw [q] at h
    exact (s.cell i c h).und_of
  · exact q c h
end

/-! ### readings by the store -/
/-- an outcome, and what is wanted of it -/
def Out (G : Nms) (K : PySem.W.Frag) (w : Wd) (H : Hp) (o : Option (VI.D × VI.St)) (Q : VK) : Prop :=
  ∃ d st', o = some (d, st') ∧ ∀ w' H' v, Step w w' H H' → StR G K w' st' → VR K w' d v → Q v H'
theorem bnd_some {α β : Type} {m : VI.M α} {f : α → VI.M β} {s s' : VI.St} {b : β} : VI.bnd m f s = some (b, s') ↔ ∃ a s1, m s = some (a, s1) ∧ f a s1 = some (b, s') := by
  unfold VI.bnd
  cases m s with
  | none => exact ⟨(fun h => by cases h), (fun ⟨_, _, h, _⟩ => by cases h)⟩
  | some r => exact ⟨(fun h => ⟨r.1, r.2, rfl, h⟩), (fun ⟨_, _, h, k⟩ => by cases h; exact k)⟩
/-- slots -/
structure ER (K : PySem.W.Frag) (w : Wd) (ρ : VI.Env) (σ : L2.St) : Prop where
  len : σ.length = ρ.length
  at_ : ∀ (i : Nat) (d : VI.D), ρ[i]? = some (some d) → ∃ v, σ[i]? = some (some v) ∧ VR K w d v
theorem ER.mono {K : PySem.W.Frag} {w w1 : Wd} {ρ : VI.Env} {σ : L2.St} (h : ER K w ρ σ) (l : Le w w1) : ER K w1 ρ σ :=
  ⟨h.len, fun i d e => let ⟨v, e1, r⟩ := h.at_ i d e; ⟨v, e1, r.mono l⟩⟩
def rdE (G : Nms) (K : PySem.W.Frag) (ev : VI.Env → VI.M VI.D) : TE := fun σ H Q => ∃ w st ρ, At w H ∧ StR G K w st ∧ ER K w ρ σ ∧ Out G K w H (ev ρ st) Q
def rd2 (G : Nms) (K : PySem.W.Frag) (f : VI.D → VI.D → VI.M VI.D) : R2 := fun a b H Q => ∃ w st x y, At w H ∧ StR G K w st ∧ VR K w x a ∧ VR K w y b ∧ Out G K w H (f x y st) Q
def rdL (G : Nms) (K : PySem.W.Frag) (f : List VI.D → VI.M VI.D) : List V → Hp → VK → Prop := fun vs H Q => ∃ w st xs, At w H ∧ StR G K w st ∧ VRs K w xs vs ∧ Out G K w H (f xs st) Q
theorem bin_rd {G : Nms} {K : PySem.W.Frag} {ea eb : VI.Env → VI.M VI.D} {f : VI.D → VI.D → VI.M VI.D} {σ : L2.St} {H : Hp} {Q : VK}
    (h : rdE G K (fun ρ => VI.bnd (ea ρ) fun x => VI.bnd (eb ρ) fun y => f x y) σ H Q) : tOp (rd2 G K f) (rdE G K ea) (rdE G K eb) σ H Q := by
  obtain ⟨w, st, ρ, a, s, e, d, st', eq, q⟩ := h
  obtain ⟨x, s1, e1, eq⟩ := bnd_some.mp eq
  obtain ⟨y, s2, e2, eq⟩ := bnd_some.mp eq
  refine ⟨w, st, ρ, a, s, e, x, s1, e1, fun w1 H1 v1 p1 r1 k1 => ?_⟩
  refine ⟨w1, s1, ρ, p1.at_, r1, e.mono p1.le, y, s2, e2, fun w2 H2 v2 p2 r2 k2 => ?_⟩
  exact ⟨w2, s2, x, y, p2.at_, r2, k1.mono p2.le, k2, d, st', eq, fun w3 H3 v3 p3 => q w3 H3 v3 ((p1.trans p2).trans p3)⟩
end VIS
end

section
set_option Elab.async false
set_option linter.all false
set_option maxRecDepth 100000
set_option maxHeartbeats 1000000
namespace VIS
open PySem PySem.Spec PyProof.Rows L2
theorem LINE_eq : VI.LINE = sizeLine := by rw [sizeLine_eq]; rfl
section
variable {G : Nms} {K : PySem.W.Frag} {w : Wd} {H : Hp} {st st' : VI.St} {Q : VK}
/-- what is wanted behind -/
abbrev Wn (G : Nms) (K : PySem.W.Frag) (w : Wd) (H : Hp) (st' : VI.St) (d : VI.D) (Q : VK) : Prop := ∀ w' H' v, Step w w' H H' → StR G K w' st' → VR K w' d v → Q v H'
theorem here {d : VI.D} {v : V} (q : Wn G K w H st d Q) (a : At w H) (s : StR G K w st) (r : VR K w d v) : Q v H := q w H v a.refl s r
theorem VR.nonI : VR K w .non .non := by simp only [VR]
theorem VR.blI {b : Bool} : VR K w (.bl b) (.bl b) := by simp only [VR]
theorem VR.intI {i : Int} : VR K w (.int i) (.int i) := by simp only [VR]
theorem VR.strI {s : VI.Txt} : VR K w (.str s) (.str (toS s)) := by simp only [VR]
theorem VR.bl_eq {b : Bool} {v : V} (h : VR K w (.bl b) v) : v = .bl b := by simpa only [VR] using h
theorem VR.int_eq {i : Int} {v : V} (h : VR K w (.int i) v) : v = .int i := by simpa only [VR] using h
theorem VR.str_eq {s : VI.Txt} {v : V} (h : VR K w (.str s) v) : v = .str (toS s) := by simpa only [VR] using h
theorem VR.non_eq {v : V} (h : VR K w .non v) : v = .non := by simpa only [VR] using h
theorem VR.tup_of {l : List VI.D} {v : V} (h : VR K w (.tup l) v) : ∃ a vs, v = .ref a ∧ ST K w a vs ∧ VRs K w l vs := by simpa only [VR] using h
theorem VR.lst_of {l : List VI.D} {v : V} (h : VR K w (.lst l) v) : ∃ a vs, v = .ref a ∧ TL w a vs ∧ VRs K w l vs := by simpa only [VR] using h
theorem VR.fro_of {l : List VI.D} {v : V} (h : VR K w (.fro l) v) : ∃ a vs, v = .ref a ∧ SL K w a vs ∧ VRs K w l vs := by simpa only [VR] using h
theorem VR.ref_of {k : Nat} {v : V} (h : VR K w (.ref k) v) : k < w.n ∧ v = .ref (w.μ k) := by simpa only [VR] using h
theorem VR.tupI {l : List VI.D} {a : Addr} {vs : List V} (h : ST K w a vs) (r : VRs K w l vs) : VR K w (.tup l) (.ref a) := by
  simp only [VR]; exact ⟨a, vs, rfl, h, r⟩
theorem VR.lstI {l : List VI.D} {a : Addr} {vs : List V} (h : TL w a vs) (r : VRs K w l vs) : VR K w (.lst l) (.ref a) := by
  simp only [VR]; exact ⟨a, vs, rfl, h, r⟩
/-- a new tuple -/
theorem tup_new (a : At w H) (s : StR G K w st) {l : List VI.D} {vs : List V} (r : VRs K w l vs) (q : Wn G K w H st (.tup l) Q) : ∀ p, H p = none → Q (.ref p) (upd H p (.tup vs)) := fun p np => by
  obtain ⟨w', p1, s1, h1, n1⟩ := step_val (o := .tup vs) a s np
  exact q w' _ _ p1 s1 (.tupI (.inl ⟨.inl h1, n1⟩) (r.mono p1.le))
/-- a new list -/
theorem lst_new (a : At w H) (s : StR G K w st) {own : Bool} {l : List VI.D} {vs : List V} {d : VI.D} (r : VRs K w l vs) (e : VI.mk own l st = some (d, st')) (q : Wn G K w H st' d Q) : ∀ p, H p = none → Q (.ref p) (upd H p (.lst vs)) := fun p np => by
  unfold VI.mk at e
  cases own with
  | true =>
    rw [if_pos rfl] at e
    cases e
    obtain ⟨w', p1, s1, h1, _⟩ := step_new (o := .lst vs) (c := .lst l) a s np fun w' le hw => ⟨vs, hw, r.mono le⟩
    exact q w' _ _ p1 s1 h1
  | false =>
    rw [if_neg Bool.false_ne_true] at e
    cases e
    obtain ⟨w', p1, s1, h1, n1⟩ := step_val (o := .lst vs) a s np
    exact q w' _ _ p1 s1 (.lstI ⟨h1, n1⟩ (r.mono p1.le))
/-- a new dict -/
theorem dic_new (a : At w H) (s : StR G K w st) (q : Wn G K w H (st ++ [.dic false []]) (.ref st.length) Q) : ∀ p, H p = none → Q (.ref p) (upd H p (.dK [])) := fun p np => by
  obtain ⟨w', p1, s1, h1, _⟩ := step_new (o := .dK []) (c := .dic false []) a s np fun w' le hw => ⟨[], by simpa using hw, rfl⟩
  exact q w' _ _ p1 s1 h1
end

/-! ### int operations, texts, lists -/
def bO : VI.Bop → Operator
  | .add => .Add
  | .sub => .Sub
  | .mul => .Mult
  | .fdiv => .FloorDiv
  | .mod => .Mod
  | .pow => .Pow
  | .band => .BitAnd
section
variable {G : Nms} {X : Cx}
theorem bop_ii {o : VI.Bop} {i j k : Int} (e : VI.bopI o i j = some k) : ∃ r : R2, OpR X (binaryOp (bO o)) r ∧ ∀ H (Q : VK), Q (.int k) H → r (.int i) (.int j) H Q := by
  cases o with
  | add => cases e; exact ⟨_, op_add, fun H Q q => ⟨_, _, rfl, rfl, q⟩⟩
  | sub => cases e; exact ⟨_, op_sub, fun H Q q => ⟨_, _, rfl, rfl, q⟩⟩
  | mul =>
    simp only [VI.bopI] at e
    split at e
    · rename_i h
      cases e
      rcases h with h | h
      · exact ⟨_, op_mulW, fun H Q q => ⟨_, _, rfl, rfl, h, q⟩⟩
      · exact ⟨_, op_mul, fun H Q q => ⟨_, _, rfl, rfl, h, q⟩⟩
    · cases e
  | fdiv =>
    simp only [VI.bopI] at e
    split at e
    · rename_i h
      cases e
      exact ⟨_, op_fdivW, fun H Q q => ⟨_, _, rfl, rfl, h, q⟩⟩
    · cases e
  | mod =>
    simp only [VI.bopI] at e
    split at e
    · rename_i h
      cases e
      exact ⟨_, op_mod, fun H Q q => ⟨_, _, rfl, rfl, h, q⟩⟩
    · cases e
  | pow =>
    simp only [VI.bopI] at e
    split at e
    · rename_i h
      cases e
      exact ⟨_, op_pow, fun H Q q => ⟨_, _, rfl, rfl, ⟨h.1, by omega, h.2.2⟩, q⟩⟩
    · cases e
  | band =>
    simp only [VI.bopI] at e
    split at e
    · rename_i h
      cases e
      refine ⟨_, op_and, fun H Q q => ⟨_, _, rfl, rfl, ?_⟩⟩
      show Q (.int (Builtin.bitAnd i j)) H
      rw [bitAnd_pp h.1 h.2]
      exact q
    · cases e
theorem lstOf_int {st : VI.St} {k : Int} : VI.lstOf st (.int k) = none := rfl
/-- () + t -/
theorem op_catT0 : OpR X (binaryOp .Add) (fun x y H Q => ∃ a b ys, x = .ref a ∧ y = .ref b ∧ SqT X.K H a [] ∧ SqT X.K H b ys ∧ Q (.ref b) H) := by
  intro pins s σ H x y v u Q I rx ry h
  obtain ⟨a, b, ys, rfl, rfl, ha, hb, q⟩ := h
  cases rx
  cases ry
  obtain ⟨its, r1, p1, _⟩ := I.tuple ha
  obtain ⟨its2, r2, p2, _⟩ := I.tuple hb
  cases r1
  obtain ⟨⟨cls, dd, data, sl⟩, ho, hc, n, hd⟩ := id p1
  obtain ⟨⟨cls2, dd2, data2, sl2⟩, ho2, hc2, n2, hd2⟩ := id p2
  simp only at hc hd hc2 hd2
  subst hc hd hc2 hd2
  exact concat_meets ⟨_, ho, rfl⟩ ⟨_, ho2, rfl⟩ noFill_tuple_add seq_tuple_add PySem.F.slot_tuple_add PySem.F.entry_tuple_add (PySem.F.args_tuple_add_2 _ _)
    (tuple_addW0 a b _ its2.toArray n n2 dd dd2 sl sl2 (by simp)) ⟨ho, ho2, ⟨.ref b, H, I, rfl, q⟩⟩
theorem op_bop (o : VI.Bop) (own : Bool) : OpR X (binaryOp (bO o)) (rd2 G X.K (VI.bopM o own)) := by
  intro pins s σ H x y v u Q I rx ry h
  obtain ⟨w, st, dx, dy, a, sr, kx, ky, d, st', e, q⟩ := h
  have rep : ∀ {l : List VI.D} {k : Int}, VI.lstOf st dx = some l → dy = .int k → o = .mul → -(2 ^ 63) ≤ k ∧ k < 2 ^ 63 ∧ l.length * k.toNat ≤ VI.LINE → VI.mk own (List.replicate k.toNat l).flatten st = some (d, st') →
      wpAny (model X.prog X.w) X.A (binaryOp (bO o) v u) (EP X pins σ Q) X.xe s := fun {l k} el ek eo hk em => by
    subst ek eo
    obtain ⟨p, vs, rfl, hp, rs⟩ := lstOf_ok a sr kx el
    cases ky.int_eq
    refine op_rep pins s σ H _ _ v u Q I rx ry ⟨p, k, vs, rfl, rfl, hp, hk.1, hk.2.1, by rw [rs.length, ← LINE_eq]; exact hk.2.2, ?_⟩
    exact lst_new a sr (rs.rep _) em q
  have cat : ∀ {l m : List VI.D}, VI.lstOf st dx = some l → VI.lstOf st dy = some m → o = .add → l.length + m.length ≤ VI.LINE → VI.mk own (l ++ m) st = some (d, st') →
      wpAny (model X.prog X.w) X.A (binaryOp (bO o) v u) (EP X pins σ Q) X.xe s := fun {l m} el em eo hk ee => by
    subst eo
    obtain ⟨p, vs, rfl, hp, rs⟩ := lstOf_ok a sr kx el
    obtain ⟨p2, vs2, rfl, hp2, rs2⟩ := lstOf_ok a sr ky em
    refine op_cat pins s σ H _ _ v u Q I rx ry ⟨p, p2, vs, vs2, rfl, rfl, hp, hp2, by rw [rs.length, rs2.length, ← LINE_eq]; exact hk, ?_⟩
    exact lst_new a sr (rs.append rs2) ee q
  unfold VI.bopM at e
  split at e
  · -- ints
    rename_i i j
    obtain ⟨k, ek, e⟩ := Option.map_eq_some_iff.mp e
    cases e
    cases kx.int_eq
    cases ky.int_eq
    obtain ⟨r, ho, hr⟩ := bop_ii (X := X) ek
    exact ho pins s σ H _ _ v u Q I rx ry (hr H Q (here q a sr .intI))
  · -- texts
    rename_i z1 z2
    cases o with
    | add =>
      simp only at e
      split at e
      · rename_i hz
        cases e
        cases kx.str_eq
        cases ky.str_eq
        refine op_add_str pins s σ H _ _ v u Q I rx ry ⟨_, _, rfl, rfl, by rw [toS_len, toS_len, ← LINE_eq]; exact hz, ?_⟩
        rw [toS_app]
        exact here q a sr .strI
      · cases e
    | _ => cases e
  · -- tuples
    rename_i l1 l2
    cases o with
    | add =>
      simp only at e
      split at e
      · rename_i hz
        cases e
        obtain ⟨p, vs, rfl, hp, rs⟩ := kx.tup_of
        obtain ⟨p2, vs2, rfl, hp2, rs2⟩ := ky.tup_of
        by_cases e1 : vs = []
        · subst e1
          have e2 : l1 = [] := List.length_eq_zero_iff.mp (by rw [← rs.length]; rfl)
          subst e2
          exact op_catT0 pins s σ H _ _ v u Q I rx ry ⟨p, p2, vs2, rfl, rfl, hp.sq a, hp2.sq a, here q a sr (.tupI hp2 rs2)⟩
        · refine op_catT pins s σ H _ _ v u Q I rx ry ⟨p, p2, vs, vs2, rfl, rfl, hp.sq a, hp2.sq a, e1, by rw [rs.length, rs2.length, ← LINE_eq]; exact hz, fun e2 => ?_, fun _ => ?_⟩
          · subst e2
            have e2 : l2 = [] := List.length_eq_zero_iff.mp (by rw [← rs2.length]; rfl)
            subst e2
            rw [List.append_nil] at q
            exact here q a sr (.tupI hp rs)
          · exact tup_new a sr (rs.append rs2) q
      · cases e
    | _ => cases e
  · -- a list times an int
    rename_i b k h1
    split at e
    · rename_i l el
      split at e
      · rename_i hk
        exact rep el rfl rfl hk e
      · cases e
    · cases e
  · split at e
    · rename_i l m el em
      split at e
      · rename_i hk
        exact cat el em rfl hk e
      · cases e
    · cases e
end
end VIS
end

section
set_option Elab.async false
set_option linter.all false
set_option maxRecDepth 100000
set_option maxHeartbeats 1000000
namespace VIS
open PySem PySem.Spec PyProof.Rows L2
/-! ### data -/
mutual
def toP : VI.D → PyData
  | .non => .none
  | .bl b => .bool b
  | .int i => .int i
  | .str s => .str (toS s)
  | .tup l => .tuple (toPs l)
  | .lst l => .list (toPs l)
  | .fro _ => .none
  | .ref _ => .none
def toPs : List VI.D → List PyData
  | [] => []
  | d :: r => toP d :: toPs r
end
theorem toPs_map : ∀ l : List VI.D, toPs l = l.map toP
  | [] => by simp only [toPs, List.map_nil]
  | d :: r => by simp only [toPs, List.map_cons, toPs_map r]
section
variable {G : Nms} {K : PySem.W.Frag} {w : Wd} {H : Hp} {st st' : VI.St} {Q : VK}
mutual
theorem VR.dp (a : At w H) : ∀ {d : VI.D} {v : V}, VR K w d v → d.pure = true → Dp K H v (toP d)
  | .non, v, h, _ => by rw [h.non_eq]; simp only [toP]; exact .non
  | .bl b, v, h, _ => by rw [h.bl_eq]; simp only [toP]; exact .bl _
  | .int i, v, h, _ => by rw [h.int_eq]; simp only [toP]; exact .int _
  | .str s, v, h, _ => by rw [h.str_eq]; simp only [toP]; exact .str _
  | .tup l, v, h, u => by
    obtain ⟨p, vs, rfl, hp, rs⟩ := h.tup_of
    simp only [VI.D.pure] at u
    simp only [toP]
    exact .tup (hp.sq a) (VRs.dp a rs u)
  | .lst l, v, h, u => by
    obtain ⟨p, vs, rfl, hp, rs⟩ := h.lst_of
    simp only [VI.D.pure] at u
    simp only [toP]
    exact .lst (.of (a.sub _ _ hp.1)) (VRs.dp a rs u)
  | .fro l, v, h, u => by simp only [VI.D.pure] at u; cases u
  | .ref k, v, h, u => by simp only [VI.D.pure] at u; cases u
theorem VRs.dp (a : At w H) : ∀ {ds : List VI.D} {vs : List V}, VRs K w ds vs → VI.pureAll ds = true → DpAll K H vs (toPs ds)
  | [], vs, h, _ => by
    simp only [VRs] at h
    subst h
    simp only [toPs]
    exact .nil
  | d :: r, vs, h, u => by
    simp only [VRs] at h
    obtain ⟨x, xs, rfl, h1, h2⟩ := h
    simp only [VI.pureAll, Bool.and_eq_true] at u
    simp only [toPs]
    exact .cons (VR.dp a h1 u.1) (VRs.dp a h2 u.2)
end
mutual
theorem toP_lay : ∀ {d : VI.D}, d.pure = true → (toP d).canLay0 = true
  | .non, _ => by simp only [toP, PyData.canLay0]
  | .bl _, _ => by simp only [toP, PyData.canLay0]
  | .int _, _ => by simp only [toP, PyData.canLay0]
  | .str s, u => by
    simp only [VI.D.pure] at u
    simp only [toP, PyData.canLay0, PyData.strOk, toS]
    simpa using u
  | .tup l, u => by
    simp only [VI.D.pure] at u
    simp only [toP, PyData.canLay0]
    exact toPs_lay u
  | .lst l, u => by
    simp only [VI.D.pure] at u
    simp only [toP, PyData.canLay0]
    exact toPs_lay u
  | .fro l, u => by simp only [VI.D.pure] at u; cases u
  | .ref k, u => by simp only [VI.D.pure] at u; cases u
theorem toPs_lay : ∀ {ds : List VI.D}, VI.pureAll ds = true → PyData.canLayAll0 (toPs ds) = true
  | [], _ => by simp only [toPs, PyData.canLayAll0]
  | d :: r, u => by
    simp only [VI.pureAll, Bool.and_eq_true] at u
    simp only [toPs, PyData.canLayAll0, toP_lay u.1, toPs_lay u.2, Bool.and_self]
end
mutual
theorem toP_depth : ∀ d : VI.D, (toP d).depth ≤ d.depth
  | .non => by simp only [toP, PyData.depth, VI.D.depth]; omega
  | .bl _ => by simp only [toP, PyData.depth, VI.D.depth]; omega
  | .int _ => by simp only [toP, PyData.depth, VI.D.depth]; omega
  | .str _ => by simp only [toP, PyData.depth, VI.D.depth]; omega
  | .tup l => by
    simp only [toP, PyData.depth, VI.D.depth]
    have := toPs_depth l
    omega
  | .lst l => by
    simp only [toP, PyData.depth, VI.D.depth]
    have := toPs_depth l
    omega
  | .fro _ => by simp only [toP, PyData.depth]; omega
  | .ref _ => by simp only [toP, PyData.depth]; omega
theorem toPs_depth : ∀ ds : List VI.D, PyData.depthAll (toPs ds) ≤ VI.depthAll ds
  | [] => by simp only [toPs, PyData.depthAll, VI.depthAll]; omega
  | d :: r => by
    simp only [toPs, PyData.depthAll, VI.depthAll]
    have h1 := toP_depth d
    have h2 := toPs_depth r
    omega
end
theorem toS_beq (x y : VI.Txt) : (toS x == toS y) = (x == y) := by
  rw [Bool.eq_iff_iff]
  simp only [beq_iff_eq]
  exact ⟨toS_inj, fun h => by rw [h]⟩
mutual
theorem toP_eqv : ∀ {a b : VI.D}, a.pure = true → b.pure = true → PyData.eqv (toP a) (toP b) = VI.eqv a b
  | .non, b, _, hb => by cases b <;> simp_all [toP, PyData.eqv, VI.eqv, VI.D.pure]
  | .bl x, b, _, hb => by cases b <;> simp_all [toP, PyData.eqv, VI.eqv, VI.D.pure]
  | .int x, b, _, hb => by cases b <;> simp_all [toP, PyData.eqv, VI.eqv, VI.D.pure]
  | .str x, b, _, hb => by
    cases b with
    | str y => simp only [toP, PyData.eqv, VI.eqv, toS_beq]
    | _ => simp_all [toP, PyData.eqv, VI.eqv, VI.D.pure]
  | .tup l, b, ha, hb => by
    cases b with
    | tup m =>
      simp only [VI.D.pure] at ha hb
      simp only [toP, PyData.eqv, VI.eqv]
      exact toPs_eqv ha hb
    | _ => simp_all [toP, PyData.eqv, VI.eqv, VI.D.pure]
  | .lst l, b, ha, hb => by
    cases b with
    | lst m =>
      simp only [VI.D.pure] at ha hb
      simp only [toP, PyData.eqv, VI.eqv]
      exact toPs_eqv ha hb
    | _ => simp_all [toP, PyData.eqv, VI.eqv, VI.D.pure]
  | .fro l, b, ha, _ => by simp only [VI.D.pure] at ha; cases ha
  | .ref l, b, ha, _ => by simp only [VI.D.pure] at ha; cases ha
theorem toPs_eqv : ∀ {a b : List VI.D}, VI.pureAll a = true → VI.pureAll b = true → PyData.eqvAll (toPs a) (toPs b) = VI.eqvAll a b
  | [], [], _, _ => by simp only [toPs, PyData.eqvAll, VI.eqvAll]
  | [], _ :: _, _, _ => by simp only [toPs, PyData.eqvAll, VI.eqvAll]
  | _ :: _, [], _, _ => by simp only [toPs, PyData.eqvAll, VI.eqvAll]
  | x :: xs, y :: ys, ha, hb => by
    simp only [VI.pureAll, Bool.and_eq_true] at ha hb
    simp only [toPs, PyData.eqvAll, VI.eqvAll, toP_eqv ha.1 hb.1, toPs_eqv ha.2 hb.2]
end
theorem toP_shaped {d : VI.D} (h : d.pure = true) (k : d.depth ≤ 60) : SeqAt.shaped (toP d) = true := by
  unfold SeqAt.shaped
  rw [toP_lay h, Bool.true_and]
  have := toP_depth d
  exact decide_eq_true (by omega)
/-- a value with its list object looked up, as data -/
theorem whd_dp (a : At w H) (s : StR G K w st) {d : VI.D} {v : V} (r : VR K w d v) (h : (VI.whd st d).pure = true) : Dp K H v (toP (VI.whd st d)) := by
  cases d with
  | fro l =>
    obtain ⟨p, vs, rfl, hp, rs⟩ := r.fro_of
    simp only [VI.whd, VI.D.pure] at h
    simp only [VI.whd, toP]
    exact .lst (hp.sq a) (rs.dp a h)
  | ref n =>
    simp only [VI.whd] at h ⊢
    cases q : st[n]? with
    | none => rw [q] at h; simp only [VI.D.pure] at h; cases h
    | some c =>
      rw [q] at h
      cases c with
      | lst l =>
        obtain ⟨vs, h1, h2⟩ := s.lst q
        obtain ⟨_, rfl⟩ := r.ref_of
        simp only [VI.D.pure] at h
        simp only [toP]
        exact .lst (.of (a.sub _ _ h1)) (h2.dp a h)
      | _ => simp only [VI.D.pure] at h; cases h
  | _ => exact r.dp a h
end

/-! ### comparisons -/
def cO : VI.Cop → CmpOp
  | .eq => .Eq
  | .ne => .NotEq
  | .lt => .Lt
  | .le => .LtE
  | .gt => .Gt
  | .ge => .GtE
  | .is => .Is
  | .isnot => .IsNot
  | .mem => .In
  | .notmem => .NotIn
/-- a comparison as a value -/
def copD (o : VI.Cop) (x y : VI.D) : VI.M VI.D := VI.bnd (VI.copM o x y) fun r => VI.ret (.bl r)
section
variable {G : Nms} {X : Cx} {w : Wd} {H : Hp} {st : VI.St}
theorem eqM_ok (hu : X.A.units + 64 < cLine) (a : At w H) (s : StR G X.K w st) {dx dy : VI.D} {x y : V} {r : Bool} (kx : VR X.K w dx x) (ky : VR X.K w dy y) (e : VI.eqM dx dy st = some r) :
    (∀ Q : VK, Q (.bl r) H → ∃ R : R2, OpR X (compareOp .Eq) R ∧ R x y H Q) ∧ ∀ Q : VK, Q (.bl (!r)) H → ∃ R : R2, OpR X (compareOp .NotEq) R ∧ R x y H Q := by
  unfold VI.eqM at e
  split at e
  · rename_i z1 z2
    cases e
    rw [kx.str_eq, ky.str_eq]
    have e1 : decide (V.str (toS z1) = V.str (toS z2)) = (z1 == z2) := by rw [dec_str, toS_beq]
    exact ⟨fun Q q => ⟨_, op_eq, rfl, by rw [e1]; exact q⟩, fun Q q => ⟨_, op_ne, rfl, by rw [e1]; exact q⟩⟩
  · split at e
    · rename_i h
      cases e
      unfold VI.eqOk at h
      simp only [Bool.and_eq_true, decide_eq_true_eq] at h
      obtain ⟨⟨⟨h1, h2⟩, h3⟩, h4⟩ := h
      have d1 := whd_dp a s kx h1
      have d2 := whd_dp a s ky h2
      have ee := toP_eqv h1 h2
      exact ⟨fun Q q => ⟨_, op_eqD hu, _, _, d1, d2, toP_shaped h1 h3, toP_shaped h2 h4, by rw [ee]; exact q⟩, fun Q q => ⟨_, op_neD hu, _, _, d1, d2, toP_shaped h1 h3, toP_shaped h2 h4, by rw [ee]; exact q⟩⟩
    · cases e
/-- x in a tuple of data -/
theorem op_inT (hu : X.A.units + 65 < cLine) (neg : Bool) : OpR X (compareOp (if neg then .NotIn else .In)) (fun x y H Q => ∃ d ds, Dp X.K H x d ∧ Dp X.K H y (.tuple ds) ∧ SeqAt.shaped d = true ∧ PyData.canLayAll0 ds = true ∧ Q (.bl (if neg then !(ds.any fun z => PyData.eqv z d) else ds.any fun z => PyData.eqv z d)) H) := by
  intro pins s σ H x y v u Q I rx ry h
  obtain ⟨d, ds, hd, he, sd, se, q⟩ := h
  obtain ⟨as, r1⟩ := Dp.reads I d x v hd rx
  obtain ⟨bs, r2⟩ := Dp.reads I (.tuple ds) y u he ry
  cases neg with
  | false => exact SeqAt.in_tuple_reads r2 r1 se (SeqAt.canLay_of_shaped sd) (room_in_shaped sd hu) ⟨.bl _, H, I, rfl, q⟩
  | true => exact SeqAt.notIn_tuple_reads r2 r1 se (SeqAt.canLay_of_shaped sd) (room_in_shaped sd hu) ⟨.bl _, H, I, rfl, q⟩
theorem any_toP {l : List VI.D} {d : VI.D} (hl : VI.pureAll l = true) (hd : d.pure = true) : ((toPs l).any fun z => PyData.eqv z (toP d)) = l.any fun z => VI.eqv z d := by
  induction l with
  | nil => simp only [toPs, List.any_nil]
  | cons x r ih =>
    simp only [VI.pureAll, Bool.and_eq_true] at hl
    simp only [toPs, List.any_cons, toP_eqv hl.1 hd, ih hl.2]
theorem flat_ok {K : PySem.W.Frag} {w : Wd} {d : VI.D} {v : V} (h : VR K w d v) (f : d.flat = true) : flatV v = true := by
  cases d with
  | non => rw [h.non_eq]; rfl
  | bl b => rw [h.bl_eq]; rfl
  | int i => rw [h.int_eq]; rfl
  | str s => rw [h.str_eq]; rfl
  | _ => cases f
theorem flat_eqv {K : PySem.W.Frag} {w : Wd} {d e : VI.D} {v u : V} (h : VR K w d v) (k : VR K w e u) (f : d.flat = true) (g : e.flat = true) : eqV v u = VI.eqv d e := by
  cases d with
  | non => rw [h.non_eq]; cases e <;> first | (rw [k.non_eq]; rfl) | (rw [k.bl_eq]; rfl) | (rw [k.int_eq]; rfl) | (rw [k.str_eq]; rfl) | cases g
  | bl b => rw [h.bl_eq]; cases e <;> first | (rw [k.non_eq]; rfl) | (rw [k.bl_eq]; rfl) | (rw [k.int_eq]; rfl) | (rw [k.str_eq]; rfl) | cases g
  | int b => rw [h.int_eq]; cases e <;> first | (rw [k.non_eq]; rfl) | (rw [k.bl_eq]; rfl) | (rw [k.int_eq]; rfl) | (rw [k.str_eq]; rfl) | cases g
  | str b =>
    rw [h.str_eq]
    cases e with
    | str c => rw [k.str_eq]; show (toS b == toS c) = _; rw [toS_beq]; simp only [VI.eqv]
    | non => rw [k.non_eq]; rfl
    | bl c => rw [k.bl_eq]; rfl
    | int c => rw [k.int_eq]; rfl
    | _ => cases g
  | _ => cases f
theorem flats_ok {K : PySem.W.Frag} {w : Wd} : ∀ {l : List VI.D} {vs : List V}, VRs K w l vs → l.all VI.D.flat = true → vs.all flatV = true
  | [], vs, h, _ => by simp only [VRs] at h; subst h; rfl
  | d :: r, vs, h, f => by
    simp only [VRs] at h
    obtain ⟨x, xs, rfl, h1, h2⟩ := h
    simp only [List.all_cons, Bool.and_eq_true] at f ⊢
    exact ⟨flat_ok h1 f.1, flats_ok h2 f.2⟩
theorem flats_in {K : PySem.W.Frag} {w : Wd} {e : VI.D} {u : V} (k : VR K w e u) (g : e.flat = true) : ∀ {l : List VI.D} {vs : List V}, VRs K w l vs → l.all VI.D.flat = true → inV u vs = l.any fun z => VI.eqv z e
  | [], vs, h, _ => by simp only [VRs] at h; subst h; rfl
  | d :: r, vs, h, f => by
    simp only [VRs] at h
    obtain ⟨x, xs, rfl, h1, h2⟩ := h
    simp only [List.all_cons, Bool.and_eq_true] at f
    have ih := flats_in k g h2 f.2
    unfold inV at ih ⊢
    simp only [List.any_cons, flat_eqv h1 k f.1 g, ih]
/-- x in a list, a tuple -/
theorem inOk_ok (hu : X.A.units + 65 < cLine) (a : At w H) {dx : VI.D} {x y : V} {l : List VI.D} {p : Addr} {vs : List V} (tup : Bool) (kx : VR X.K w dx x) (hy : y = .ref p) (hp : if tup = true then SqT X.K H p vs else SqL X.K H p vs) (rs : VRs X.K w l vs)
    (h : VI.inOk dx l = true) (neg : Bool) : ∀ Q : VK, Q (.bl (if neg then !(l.any fun z => VI.eqv z dx) else l.any fun z => VI.eqv z dx)) H → ∃ R : R2, OpR X (compareOp (if neg then .NotIn else .In)) R ∧ R x y H Q := fun Q q => by
  subst hy
  unfold VI.inOk at h
  rw [Bool.or_eq_true] at h
  rcases h with h | h
  · rw [Bool.and_eq_true] at h
    have hs : SqL X.K H p vs ∨ SqT X.K H p vs := by
      cases tup with
      | true => exact .inr hp
      | false => exact .inl hp
    have e := flats_in kx h.1 rs h.2
    cases neg with
    | false => exact ⟨_, op_in_seq, p, vs, rfl, hs, flat_ok kx h.1, flats_ok rs h.2, by rw [e]; exact q⟩
    | true => exact ⟨_, op_notIn_seq, p, vs, rfl, hs, flat_ok kx h.1, flats_ok rs h.2, by rw [e]; exact q⟩
  · simp only [Bool.and_eq_true, decide_eq_true_eq] at h
    obtain ⟨⟨⟨h1, h2⟩, h3⟩, h4⟩ := h
    have d1 := kx.dp a h1
    have d2 := rs.dp a h2
    have ea := any_toP h2 h1
    have dl : PyData.canLayAll0 (toPs l) = true := toPs_lay h2
    cases tup with
    | true => exact ⟨_, op_inT hu neg, _, _, d1, .tup hp d2, toP_shaped h1 h3, dl, by rw [ea]; exact q⟩
    | false =>
      have sl : SeqAt.shaped (.list (toPs l)) = true := by
        have z := toPs_depth l
        unfold SeqAt.shaped
        simp only [PyData.canLay0, PyData.depth, dl, Bool.true_and]
        exact decide_eq_true (by omega)
      cases neg with
      | false => exact ⟨_, op_inD hu, _, _, d1, .lst hp d2, toP_shaped h1 h3, sl, by rw [ea]; exact q⟩
      | true => exact ⟨_, op_notInD hu, _, _, d1, .lst hp d2, toP_shaped h1 h3, sl, by rw [ea]; exact q⟩
end
end VIS
end

section
set_option Elab.async false
set_option linter.all false
set_option maxRecDepth 100000
set_option maxHeartbeats 1000000
namespace VIS
open PySem PySem.Spec PyProof.Rows L2
/-! ### keys -/
theorem ky_ok {K : PySem.W.Frag} {w : Wd} {d : VI.D} {v : V} {k : VI.Ky} (h : VR K w d v) (e : d.ky = some k) : v = kV (kyK k) := by
  cases d with
  | int i => cases e; exact h.int_eq
  | str s => cases e; exact h.str_eq
  | _ => cases e
section
variable {K : PySem.W.Frag} {w : Wd}
theorem KR.length : ∀ {kvs : List (VI.Ky × VI.D)} {vs : List (Key × V)}, KR K w kvs vs → vs.length = kvs.length
  | [], _, h => by cases h; rfl
  | p :: r, vs, h => by
    obtain ⟨x, xs, rfl, _, h2⟩ := h
    rw [List.length_cons, List.length_cons, KR.length h2]
theorem KR.val (k : VI.Ky) : ∀ {kvs : List (VI.Ky × VI.D)} {vs : List (Key × V)}, KR K w kvs vs → match VI.valK kvs k with
    | some d => ∃ v, valV vs (kyK k) = some v ∧ VR K w d v
    | none => valV vs (kyK k) = none
  | [], _, h => by cases h; rfl
  | p :: r, vs, h => by
    obtain ⟨x, xs, rfl, h1, h2⟩ := h
    have ih := KR.val k h2
    by_cases e : p.1 = k
    · have e1 : VI.valK (p :: r) k = some p.2 := by simp [VI.valK, List.find?_cons, e]
      rw [e1]
      exact ⟨x, valV_pos (p := (kyK p.1, x)) (by rw [e]), h1⟩
    · have e1 : VI.valK (p :: r) k = VI.valK r k := by simp [VI.valK, List.find?_cons, e]
      have e2 : valV ((kyK p.1, x) :: xs) (kyK k) = valV xs (kyK k) := valV_neg (p := (kyK p.1, x)) fun z => e (kyK_inj z)
      rw [e1, e2]
      exact ih
theorem KR.some {kvs : List (VI.Ky × VI.D)} {vs : List (Key × V)} {k : VI.Ky} {d : VI.D} (h : KR K w kvs vs) (e : VI.valK kvs k = some d) : ∃ v, valV vs (kyK k) = some v ∧ VR K w d v := by
  have := h.val k
  rw [e] at this
  exact this
theorem KR.none {kvs : List (VI.Ky × VI.D)} {vs : List (Key × V)} {k : VI.Ky} (h : KR K w kvs vs) (e : VI.valK kvs k = none) : valV vs (kyK k) = none := by
  have := h.val k
  rw [e] at this
  exact this
theorem KR.isSome {kvs : List (VI.Ky × VI.D)} {vs : List (Key × V)} (k : VI.Ky) (h : KR K w kvs vs) : (valV vs (kyK k)).isSome = (VI.valK kvs k).isSome := by
  cases e : VI.valK kvs k with
  | none => rw [h.none e]; rfl
  | some d =>
    obtain ⟨v, e1, _⟩ := h.some e
    rw [e1]; rfl
theorem KR.snoc {k : VI.Ky} {d : VI.D} {v : V} (r : VR K w d v) : ∀ {kvs : List (VI.Ky × VI.D)} {vs : List (Key × V)}, KR K w kvs vs → KR K w (kvs ++ [(k, d)]) (vs ++ [(kyK k, v)])
  | [], _, h => by cases h; exact ⟨v, [], rfl, r, rfl⟩
  | p :: q, vs, h => by
    obtain ⟨x, xs, rfl, h1, h2⟩ := h
    exact ⟨x, _, rfl, h1, KR.snoc r h2⟩
theorem KR.repl {k : VI.Ky} {d : VI.D} {v : V} (r : VR K w d v) : ∀ {kvs : List (VI.Ky × VI.D)} {vs : List (Key × V)}, KR K w kvs vs →
    KR K w (kvs.map fun kv => if kv.1 = k then (kv.1, d) else kv) (vs.map fun kv => if kv.1 = kyK k then (kv.1, v) else kv)
  | [], _, h => by cases h; exact rfl
  | p :: q, vs, h => by
    obtain ⟨x, xs, rfl, h1, h2⟩ := h
    have ih := KR.repl (k := k) r h2
    rw [List.map_cons, List.map_cons]
    by_cases e : p.1 = k
    · rw [if_pos e, if_pos (by rw [e])]
      exact ⟨v, _, rfl, r, ih⟩
    · rw [if_neg e, if_neg (fun z => e (kyK_inj z))]
      exact ⟨x, _, rfl, h1, ih⟩
theorem KR.any (k : VI.Ky) : ∀ {kvs : List (VI.Ky × VI.D)} {vs : List (Key × V)}, KR K w kvs vs → (vs.any fun kv => decide (kv.1 = kyK k)) = kvs.any fun kv => decide (kv.1 = k)
  | [], _, h => by cases h; rfl
  | p :: q, vs, h => by
    obtain ⟨x, xs, rfl, h1, h2⟩ := h
    rw [List.any_cons, List.any_cons, KR.any k h2]
    have : decide ((kyK p.1, x).1 = kyK k) = decide (p.1 = k) := by
      rw [decide_eq_decide]
      exact ⟨fun z => kyK_inj z, fun z => by rw [z]⟩
    rw [this]
theorem KR.put {kvs : List (VI.Ky × VI.D)} {vs : List (Key × V)} {k : VI.Ky} {d : VI.D} {v : V} (h : KR K w kvs vs) (r : VR K w d v) : KR K w (VI.putK kvs k d) (L2.putK vs (kyK k) v) := by
  unfold VI.putK L2.putK
  rw [h.any k]
  split
  · exact h.repl r
  · exact h.snoc r
theorem KR.drop (k : VI.Ky) : ∀ {kvs : List (VI.Ky × VI.D)} {vs : List (Key × V)}, KR K w kvs vs → KR K w (VI.dropK kvs k) (L2.dropK vs (kyK k))
  | [], _, h => by cases h; exact rfl
  | p :: q, vs, h => by
    obtain ⟨x, xs, rfl, h1, h2⟩ := h
    have ih := KR.drop k h2
    unfold VI.dropK L2.dropK at ih ⊢
    rw [List.filter_cons, List.filter_cons]
    by_cases e : p.1 = k
    · have e1 : ¬ decide (p.1 ≠ k) = true := by simp [e]
      have e2 : ¬ decide ((kyK p.1, x).1 ≠ kyK k) = true := by simp [e]
      rw [if_neg e1, if_neg e2]
      exact ih
    · have e1 : decide (p.1 ≠ k) = true := by simp [e]
      have e2 : decide ((kyK p.1, x).1 ≠ kyK k) = true := by
        have : ¬ kyK p.1 = kyK k := fun z => e (kyK_inj z)
        simp [this]
      rw [if_pos e1, if_pos e2]
      exact ⟨x, _, rfl, h1, ih⟩
end
section
variable {G : Nms} {K : PySem.W.Frag} {w : Wd} {H : Hp} {st : VI.St}
/-- a dict of the store is read -/
theorem StR.dic (a : At w H) (s : StR G K w st) {n : Nat} {lk : Bool} {kvs : List (VI.Ky × VI.D)} (e : st[n]? = some (.dic lk kvs)) : ∃ vs, Rd H (w.μ n) (.dK vs) ∧ (lk = false → w.H (w.μ n) = some (.dK vs)) ∧ KR K w kvs vs := by
  obtain ⟨vs, h1, h2⟩ := s.cell n _ e
  cases lk with
  | true =>
    rw [if_pos rfl] at h1
    obtain ⟨o, h1⟩ := h1
    exact ⟨vs, .inr ⟨o, a.sub _ _ h1⟩, (fun z => by cases z), h2⟩
  | false =>
    rw [if_neg Bool.false_ne_true] at h1
    exact ⟨vs, .inl (a.sub _ _ h1), fun _ => h1, h2⟩
end
section
variable {G : Nms} {X : Cx}
/-- None, True, False on the right of is -/
theorem relV_nob {v : V} {u : Value} (r : RelV v u) (b : String) : u ≠ .builtin b := by
  cases v with
  | non => cases r; exact fun z => nomatch z
  | bl _ => cases r; exact fun z => nomatch z
  | int _ => obtain ⟨t, rfl⟩ := r; exact fun z => nomatch z
  | str _ => obtain ⟨t, rfl⟩ := r; exact fun z => nomatch z
  | byt _ => obtain ⟨t, rfl⟩ := r; exact fun z => nomatch z
  | flt _ => obtain ⟨t, rfl⟩ := r; exact fun z => nomatch z
  | ref _ => cases r; exact fun z => nomatch z
  | ty _ => cases r; exact fun z => nomatch z
theorem plain_single {u : Value} (n : ∀ b, u ≠ .builtin b) (c : Value) (hc : c = .none ∨ ∃ b, c = .bool b) : plainIs u c = true := by
  rcases hc with rfl | ⟨b, rfl⟩ <;> cases u <;> first | rfl | exact absurd rfl (n _)
theorem is_ok {K : PySem.W.Frag} {w : Wd} {dx dy : VI.D} {x y : V} {v u : Value} (kx : VR K w dx x) (ky : VR K w dy y) (rx : RelV x v) (ry : RelV y u) (h : dy.single = true) : plainIs v u = true ∧ (v == u) = VI.D.isSame dx dy := by
  have nb := relV_nob rx
  have key : ∀ c, (c = Value.none ∨ ∃ b, c = Value.bool b) → plainIs v c = true := fun c hc => plain_single nb c hc
  cases dy with
  | non =>
    cases ky.non_eq
    cases ry
    refine ⟨key _ (.inl rfl), ?_⟩
    cases dx with
    | non => cases kx.non_eq; cases rx; rfl
    | bl b => cases kx.bl_eq; cases rx; rfl
    | int i => cases kx.int_eq; obtain ⟨t, rfl⟩ := rx; rfl
    | str z => cases kx.str_eq; obtain ⟨t, rfl⟩ := rx; rfl
    | tup l => obtain ⟨p, vs, rfl, _⟩ := kx.tup_of; cases rx; rfl
    | lst l => obtain ⟨p, vs, rfl, _⟩ := kx.lst_of; cases rx; rfl
    | fro l => obtain ⟨p, vs, rfl, _⟩ := kx.fro_of; cases rx; rfl
    | ref k => obtain ⟨_, rfl⟩ := kx.ref_of; cases rx; rfl
  | bl c =>
    cases ky.bl_eq
    cases ry
    refine ⟨key _ (.inr ⟨_, rfl⟩), ?_⟩
    cases dx with
    | non => cases kx.non_eq; cases rx; rfl
    | bl b => cases kx.bl_eq; cases rx; cases b <;> cases c <;> rfl
    | int i => cases kx.int_eq; obtain ⟨t, rfl⟩ := rx; rfl
    | str z => cases kx.str_eq; obtain ⟨t, rfl⟩ := rx; rfl
    | tup l => obtain ⟨p, vs, rfl, _⟩ := kx.tup_of; cases rx; rfl
    | lst l => obtain ⟨p, vs, rfl, _⟩ := kx.lst_of; cases rx; rfl
    | fro l => obtain ⟨p, vs, rfl, _⟩ := kx.fro_of; cases rx; rfl
    | ref k => obtain ⟨_, rfl⟩ := kx.ref_of; cases rx; rfl
  | _ => cases h
/-- in a dict -/
theorem op_indic (hu : X.A.units + 1 < cLine) (neg : Bool) : OpR X (compareOp (if neg then .NotIn else .In)) (fun x y H Q => ∃ a o, y = .ref a ∧ DGet H a x o ∧ Q (.bl (if neg then !o.isSome else o.isSome)) H) := by
  intro pins s σ H x y v u Q I rx ry h
  obtain ⟨a, o, rfl, g, q⟩ := h
  cases ry
  cases neg with
  | false => exact d_in hu I g rx fun s' I' => ⟨.bl o.isSome, H, I', rfl, q⟩
  | true => exact d_notIn hu I g rx fun s' I' => ⟨.bl (!o.isSome), H, I', rfl, q⟩
theorem inM_ok (hu : X.A.units + 65 < cLine) {w : Wd} {H : Hp} {st : VI.St} (a : At w H) (sr : StR G X.K w st) {dx dy : VI.D} {x y : V} {r : Bool} (kx : VR X.K w dx x) (ky : VR X.K w dy y) (e : VI.inM dx dy st = some r) (neg : Bool) :
    ∀ Q : VK, Q (.bl (if neg then !r else r)) H → ∃ R : R2, OpR X (compareOp (if neg then .NotIn else .In)) R ∧ R x y H Q := fun Q q => by
  cases dy with
  | ref n =>
    obtain ⟨hn, rfl⟩ := ky.ref_of
    simp only [VI.inM] at e
    cases c : st[n]? with
    | none => rw [c] at e; cases e
    | some cc =>
      rw [c] at e
      cases cc with
      | dic lk kvs =>
        obtain ⟨k, ek, e⟩ := Option.map_eq_some_iff.mp e
        subst e
        obtain ⟨vs, h1, _, h2⟩ := sr.dic a c
        refine ⟨_, op_indic (by omega) neg, _, valV vs (kyK k), rfl, .inl ⟨vs, kyK k, h1, ky_ok kx ek, rfl⟩, ?_⟩
        rw [h2.isSome k]
        exact q
      | lst l =>
        simp only at e
        split at e
        · rename_i h
          cases e
          obtain ⟨vs, h1, h2⟩ := sr.lst c
          exact inOk_ok hu a false kx rfl (by simpa using SqL.of (a.sub _ _ h1)) h2 h neg Q q
        · cases e
      | ins _ _ => cases e
  | lst l =>
    simp only [VI.inM] at e
    split at e
    · rename_i h
      cases e
      obtain ⟨p, vs, rfl, hp, rs⟩ := ky.lst_of
      exact inOk_ok hu a false kx rfl (by simpa using SqL.of (a.sub _ _ hp.1)) rs h neg Q q
    · cases e
  | tup l =>
    simp only [VI.inM] at e
    split at e
    · rename_i h
      cases e
      obtain ⟨p, vs, rfl, hp, rs⟩ := ky.tup_of
      exact inOk_ok hu a true kx rfl (by simpa using hp.sq a) rs h neg Q q
    · cases e
  | _ => simp [VI.inM] at e
theorem op_cop (hu : X.A.units + 65 < cLine) (o : VI.Cop) : OpR X (compareOp (cO o)) (rd2 G X.K (copD o)) := by
  intro pins s σ H x y v u Q I rx ry h
  obtain ⟨w, st, dx, dy, a, sr, kx, ky, d, st', e, q⟩ := h
  obtain ⟨r, s1, ec, e2⟩ := bnd_some.mp e
  clear e
  obtain ⟨rfl, rfl⟩ : VI.D.bl r = d ∧ s1 = st' := by simpa [VI.ret] using e2
  have fin : s1 = st → Q (.bl r) H := fun z => by subst z; exact here q a sr .blI
  have app : ∀ {op : CmpOp} {b : Bool}, cO o = op → (∃ R : R2, OpR X (compareOp op) R ∧ R x y H Q) → wpAny (model X.prog X.w) X.A (compareOp (cO o) v u) (EP X pins σ Q) X.xe s := fun {op b} eo ⟨R, h1, h2⟩ => by
    rw [eo]
    exact h1 pins s σ H x y v u Q I rx ry h2
  cases o with
  | eq =>
    obtain ⟨r', e1, e2⟩ := Option.map_eq_some_iff.mp ec
    cases e2
    exact app (b := true) rfl ((eqM_ok (by omega) a sr kx ky e1).1 Q (fin rfl))
  | ne =>
    obtain ⟨r', e1, e2⟩ := Option.map_eq_some_iff.mp ec
    cases e2
    exact app (b := true) rfl ((eqM_ok (by omega) a sr kx ky e1).2 Q (fin rfl))
  | is =>
    simp only [VI.copM] at ec
    split at ec
    · rename_i h
      cases ec
      obtain ⟨h1, h2⟩ := is_ok kx ky rx ry h
      exact wpAny_is_plain h1 ⟨.bl _, H, I, by rw [h2]; rfl, fin rfl⟩
    · cases ec
  | isnot =>
    simp only [VI.copM] at ec
    split at ec
    · rename_i h
      cases ec
      obtain ⟨h1, h2⟩ := is_ok kx ky rx ry h
      exact wpAny_isNot_plain h1 ⟨.bl _, H, I, by rw [h2]; rfl, fin rfl⟩
    · cases ec
  | mem =>
    obtain ⟨r', e1, e2⟩ := Option.map_eq_some_iff.mp ec
    cases e2
    exact app (b := true) rfl (inM_ok hu a sr kx ky e1 false Q (fin rfl))
  | notmem =>
    obtain ⟨r', e1, e2⟩ := Option.map_eq_some_iff.mp ec
    cases e2
    exact app (b := true) rfl (inM_ok hu a sr kx ky e1 true Q (fin rfl))
  | lt =>
    simp only [VI.copM] at ec
    split at ec
    · cases ec
      cases kx.int_eq
      cases ky.int_eq
      exact app (b := true) rfl ⟨_, op_lt, _, _, rfl, rfl, fin rfl⟩
    · cases ec
  | le =>
    simp only [VI.copM] at ec
    split at ec
    · cases ec
      cases kx.int_eq
      cases ky.int_eq
      exact app (b := true) rfl ⟨_, op_le, _, _, rfl, rfl, fin rfl⟩
    · cases ec
  | gt =>
    simp only [VI.copM] at ec
    split at ec
    · cases ec
      cases kx.int_eq
      cases ky.int_eq
      exact app (b := true) rfl ⟨_, op_gt, _, _, rfl, rfl, fin rfl⟩
    · cases ec
  | ge =>
    simp only [VI.copM] at ec
    split at ec
    · cases ec
      cases kx.int_eq
      cases ky.int_eq
      exact app (b := true) rfl ⟨_, op_ge, _, _, rfl, rfl, fin rfl⟩
    · cases ec
/-- an entry of a dict -/
theorem ix_dict (hu : X.A.units + 1 < cLine) : IxR X (fun x y H Q => ∃ a v, x = .ref a ∧ DGet H a y (some v) ∧ Q v H) := by
  intro value slice pins s σ H x y v u Q I rx ry h hs
  obtain ⟨a, d, rfl, g, q⟩ := h
  cases rx
  have hT := dict_typeIs I g
  unfold subscriptTail
  refine wpAny_bind ?_
  rw [getitemInPython_of_ne hT.not_modules]
  refine wpAny_bind (wpAny_specialOf hT PySem.F.slot_dict_getitem.lookup ?_)
  have fin : wpAny (model X.prog X.w) X.A (subscripted slice false (.ref a) u) (fun r s₃ => wpAny (model X.prog X.w) X.A (letTemporaryGo value (.ref a) r >>= fun _ => pure r) (EP X pins σ Q) X.xe s₃) X.xe s := by
    rw [hs]
    exact wpAny_operating (d_getItem hu I g ry fun w' s3 I3 rw' => wpAny_bind (wpAny_letTemporaryGo (wpAny_pure ⟨d, H, I3, rw', q⟩)))
  first
    | exact wpAny_pure (wpAny_bind fin)
    | exact wpAny_bind (wpAny_pure (wpAny_bind fin))
    | exact wpAny_bind fin
theorem ix_idx (hu : X.A.units + 1 < cLine) : IxR X (rd2 G X.K VI.idxM) := by
  intro value slice pins s σ H x y v u Q I rx ry h hs
  obtain ⟨w, st, dx, dy, a, sr, kx, ky, d, st', e, q⟩ := h
  have app : (∃ R : R2, IxR X R ∧ R x y H Q) → wpAny (model X.prog X.w) X.A (subscriptTail value slice v u) (EP X pins σ Q) X.xe s := fun ⟨R, h1, h2⟩ => h1 value slice pins s σ H x y v u Q I rx ry h2 hs
  unfold VI.idxM at e
  split at e
  · obtain ⟨d', e1, e2⟩ := Option.map_eq_some_iff.mp e
    cases e2
    cases ky.int_eq
    obtain ⟨p, vs, rfl, hp, rs⟩ := kx.tup_of
    obtain ⟨v', h1, h2⟩ := rs.atI e1
    exact app ⟨_, ix_tup, p, vs, _, v', rfl, rfl, hp.sq a, h1, here q a sr h2⟩
  · obtain ⟨d', e1, e2⟩ := Option.map_eq_some_iff.mp e
    cases e2
    cases ky.int_eq
    obtain ⟨p, vs, rfl, hp, rs⟩ := kx.lst_of
    obtain ⟨v', h1, h2⟩ := rs.atI e1
    exact app ⟨_, ix_list, p, vs, _, v', rfl, rfl, .of (a.sub _ _ hp.1), h1, here q a sr h2⟩
  · obtain ⟨d', e1, e2⟩ := Option.map_eq_some_iff.mp e
    cases e2
    cases ky.int_eq
    obtain ⟨p, vs, rfl, hp, rs⟩ := kx.fro_of
    obtain ⟨v', h1, h2⟩ := rs.atI e1
    exact app ⟨_, ix_list, p, vs, _, v', rfl, rfl, hp.sq a, h1, here q a sr h2⟩
  · rename_i z k
    split at e
    · rename_i hz
      obtain ⟨c, e1, e2⟩ := Option.map_eq_some_iff.mp e
      cases e2
      cases ky.int_eq
      cases kx.str_eq
      refine app ⟨_, ix_str, toS z, _, c, rfl, rfl, by rw [toS_len, ← LINE_eq]; exact hz, ?_, ?_⟩
      · have e3 : L2.atI z k = some c := e1
        simpa [toS] using e3
      · exact here q a sr (.strI (s := [c]))
    · cases e
  · rename_i n i
    obtain ⟨hn, rfl⟩ := kx.ref_of
    split at e
    · rename_i l k c
      obtain ⟨d', e1, e2⟩ := Option.map_eq_some_iff.mp e
      cases e2
      cases ky.int_eq
      obtain ⟨vs, h1, h2⟩ := sr.lst c
      obtain ⟨v', h3, h4⟩ := h2.atI e1
      exact app ⟨_, ix_list, _, vs, _, v', rfl, rfl, .of (a.sub _ _ h1), h3, here q a sr h4⟩
    · rename_i lk kvs i' c
      obtain ⟨k, ek, e⟩ := Option.bind_eq_some_iff.mp e
      obtain ⟨d', e1, e2⟩ := Option.map_eq_some_iff.mp e
      cases e2
      obtain ⟨vs, h1, _, h2⟩ := sr.dic a c
      obtain ⟨v', h3, h4⟩ := h2.some e1
      exact app ⟨_, ix_dict hu, _, v', rfl, .inl ⟨vs, kyK k, h1, ky_ok ky ek, h3.symm⟩, here q a sr h4⟩
    · cases e
  · cases e
end
end VIS
end

section
set_option Elab.async false
set_option linter.all false
set_option maxRecDepth 100000
set_option maxHeartbeats 1000000
namespace VIS
open PySem PySem.Spec PyProof.Rows L2
section
variable {G : Nms} {K : PySem.W.Frag} {w : Wd} {H : Hp} {st st' : VI.St}
/-! ### truth -/
theorem tru_v (a : At w H) (sr : StR G K w st) {d : VI.D} {v : V} {k : Bool} (r : VR K w d v) (e : VI.truthM d st = some (k, st')) : st' = st ∧ TruV K v H k := by
  have emp : ∀ {l : List VI.D} {vs : List V}, VRs K w l vs → (!l.isEmpty) = !vs.isEmpty := fun {l vs} rs => by
    have := rs.length
    cases l <;> cases vs <;> simp_all
  unfold VI.truthM at e
  split at e
  · cases e; rw [r.non_eq]; exact ⟨rfl, rfl⟩
  · cases e; rw [r.bl_eq]; exact ⟨rfl, rfl⟩
  · cases e; rw [r.int_eq]; exact ⟨rfl, rfl⟩
  · rename_i x
    split at e
    · rename_i hx
      cases e
      rw [r.str_eq]
      refine ⟨rfl, by rw [toS_len, ← LINE_eq]; exact hx, ?_⟩
      rw [toS_len]
      cases x <;> simp
      omega
    · cases e
  · cases e
    obtain ⟨p, vs, rfl, hp, rs⟩ := r.tup_of
    exact ⟨rfl, .inr (.inl ⟨vs, hp.sq a, emp rs⟩)⟩
  · cases e
    obtain ⟨p, vs, rfl, hp, rs⟩ := r.lst_of
    exact ⟨rfl, .inl ⟨vs, .of (a.sub _ _ hp.1), emp rs⟩⟩
  · cases e
    obtain ⟨p, vs, rfl, hp, rs⟩ := r.fro_of
    exact ⟨rfl, .inl ⟨vs, hp.sq a, emp rs⟩⟩
  · rename_i n
    obtain ⟨_, rfl⟩ := r.ref_of
    split at e
    · rename_i l c
      cases e
      obtain ⟨vs, h1, h2⟩ := sr.lst c
      exact ⟨rfl, .inl ⟨vs, .of (a.sub _ _ h1), emp h2⟩⟩
    · cases e
/-! ### slices -/
end
def rdSl (G : Nms) (K : PySem.W.Frag) (own : Bool) : V → Option Int → Option Int → Hp → VK → Prop := fun v lo hi H Q => ∃ w st x, At w H ∧ StR G K w st ∧ VR K w x v ∧ Out G K w H (VI.slcM own x lo hi st) Q
theorem sIx_le (n d : Nat) (o : Option Int) (hd : d ≤ n) : HT.sIx n d o ≤ n := by
  cases o with
  | none => exact hd
  | some v =>
    simp only [HT.sIx]
    split <;> omega
section
variable {G : Nms} {X : Cx}
theorem sl_rd (own : Bool) : SlR X (rdSl G X.K own) := by
  intro pins s σ H x v vl vu lo hi sl Q I rx hs pl pu h
  obtain ⟨w, st, d, a, sr, kx, r, st', e, q⟩ := h
  have lst : ∀ {p : Addr} {l : List VI.D} {vs : List V}, x = .ref p → SqL X.K H p vs → VRs X.K w l vs → VI.mk own (VI.cut l lo hi) st = some (r, st') →
      ∃ T id, typeLookup (.type T) "__getitem__" = pure (some (.builtin id)) ∧ s.TypeIs v T ∧ wpAny (model X.prog X.w) X.A (getItem v (.ref sl)) (EP X pins σ Q) X.xe s := fun {p l vs} ep hp rs em =>
    sl_list pins s σ H x v vl vu lo hi sl Q I rx hs pl pu ⟨p, vs, ep, hp, lst_new a sr (rs.cut lo hi) em q⟩
  unfold VI.slcM at e
  split at e
  · rename_i l
    cases e
    obtain ⟨p, vs, rfl, hp, rs⟩ := kx.tup_of
    refine sl_tupA pins s σ H _ v vl vu lo hi sl Q I rx hs pl pu ⟨p, vs, rfl, hp.sq a, fun ⟨h1, h2⟩ => ?_, fun _ => tup_new a sr (rs.cut lo hi) q⟩
    refine here q a sr (.tupI hp ?_)
    have e1 := rs.cut lo hi
    unfold cutV at e1
    rw [h1, h2] at e1
    rw [List.drop_zero, Nat.sub_zero, List.take_length] at e1
    exact e1
  · obtain ⟨p, vs, rfl, hp, rs⟩ := kx.lst_of
    exact lst rfl (.of (a.sub _ _ hp.1)) rs e
  · obtain ⟨p, vs, rfl, hp, rs⟩ := kx.fro_of
    exact lst rfl (hp.sq a) rs e
  · obtain ⟨_, rfl⟩ := kx.ref_of
    split at e
    · rename_i l c
      obtain ⟨vs, h1, h2⟩ := sr.lst c
      exact lst rfl (.of (a.sub _ _ h1)) h2 e
    · cases e
  · cases e
end
/-! ### fields -/
/-- what the fields are to the classes -/
structure FldOk (G : Nms) (K : PySem.W.Frag) (F : VI.Flds) : Prop where
  inj : ∀ f g, G.nm f = G.nm g → f = g
  cls : ∀ c f, F c f = true → Cls K (G.cls c) ∧ NoAttr K (G.cls c) (G.nm f)
section
variable {G : Nms} {K : PySem.W.Frag} {w : Wd} {H : Hp} {st st' : VI.St}
theorem FR.look (inj : ∀ f g, G.nm f = G.nm g → f = g) {f : Nat} : ∀ {fs : List (Nat × VI.D)} {vs : List (Str × V)}, FR G.nm K w fs vs → match VI.valF fs f with
    | some d => ∃ v, vs.lookup (G.nm f) = some v ∧ VR K w d v
    | none => vs.lookup (G.nm f) = none
  | [], _, h => by cases h; rfl
  | (g, d) :: r, vs, h => by
    obtain ⟨x, xs, rfl, h1, h2⟩ := h
    have ih := FR.look inj (f := f) h2
    by_cases e : f = g
    · subst e
      simp only [VI.valF, if_true]
      exact ⟨x, by simp [List.lookup_cons], h1⟩
    · have e2 : (G.nm f == G.nm g) = false := by
        rw [beq_eq_false_iff_ne]
        exact fun z => e (inj _ _ z)
      simp only [VI.valF, if_neg e, List.lookup_cons, e2]
      exact ih
theorem FR.put (inj : ∀ f g, G.nm f = G.nm g → f = g) {f : Nat} {d : VI.D} {v : V} (r : VR K w d v) : ∀ {fs : List (Nat × VI.D)} {vs : List (Str × V)}, FR G.nm K w fs vs → FR G.nm K w (VI.putF f d fs) (L2.putF (G.nm f) v vs)
  | [], _, h => by cases h; exact ⟨v, [], rfl, r, rfl⟩
  | (g, x) :: q, vs, h => by
    obtain ⟨y, ys, rfl, h1, h2⟩ := h
    unfold VI.putF L2.putF
    by_cases e : g = f
    · subst e
      rw [if_pos rfl]
      simp only [if_true]
      exact ⟨v, ys, rfl, r, h2⟩
    · have e2 : ¬ G.nm g = G.nm f := fun z => e (inj _ _ z)
      rw [if_neg e]
      simp only [e2, if_false]
      exact ⟨y, _, rfl, h1, FR.put inj r h2⟩
theorem FR.length {nm : Nat → Str} : ∀ {fs : List (Nat × VI.D)} {vs : List (Str × V)}, FR nm K w fs vs → vs.length = fs.length
  | [], _, h => by cases h; rfl
  | p :: r, vs, h => by
    obtain ⟨x, xs, rfl, _, h2⟩ := h
    rw [List.length_cons, List.length_cons, FR.length h2]
theorem StR.ins (a : At w H) (s : StR G K w st) {n c : Nat} {fs : List (Nat × VI.D)} (e : st[n]? = some (.ins c fs)) : ∃ dx vs, H (w.μ n) = some (.ins (G.cls c) dx vs) ∧ FR G.nm K w fs vs := by
  obtain ⟨dx, vs, h1, h2⟩ := s.cell n _ e
  exact ⟨dx, vs, a.sub _ _ h1, h2⟩
/-- x.f -/
theorem fld_rd {F : VI.Flds} (fo : FldOk G K F) {ev : VI.Env → VI.M VI.D} {f : Nat} {σ : L2.St} {Q : VK} (h : rdE G K (fun ρ => VI.bnd (ev ρ) fun x => VI.fldM F x f) σ H Q) : tFld K (rdE G K ev) (G.nm f) σ H Q := by
  obtain ⟨w, st, ρ, a, s, e, d, st', eq, q⟩ := h
  obtain ⟨x, s1, e1, eq⟩ := bnd_some.mp eq
  refine ⟨w, st, ρ, a, s, e, x, s1, e1, fun w1 H1 v1 p1 r1 k1 => ?_⟩
  cases x with
  | ref n =>
    obtain ⟨_, rfl⟩ := k1.ref_of
    simp only [VI.fldM] at eq
    cases c : s1[n]? with
    | none => rw [c] at eq; cases eq
    | some cc =>
      rw [c] at eq
      cases cc with
      | ins cn fs =>
        simp only at eq
        split at eq
        · rename_i hf
          obtain ⟨d', e2, e3⟩ := Option.map_eq_some_iff.mp eq
          cases e3
          obtain ⟨dx, vs, h1, h2⟩ := r1.ins p1.at_ c
          have h3 := h2.look fo.inj (f := f)
          rw [e2] at h3
          obtain ⟨v', h3, h4⟩ := h3
          obtain ⟨c1, c2⟩ := fo.cls _ _ hf
          exact ⟨_, _, dx, vs, v', rfl, h1, c1, c2, h3, q w1 H1 v' p1 r1 h4⟩
        · cases eq
      | _ => cases eq
  | _ => cases eq
end
end VIS
end

section
set_option Elab.async false
set_option linter.all false
set_option maxRecDepth 100000
set_option maxHeartbeats 1000000
namespace VIS
open PySem PySem.Spec PyProof.Rows L2
/-! ### sorted -/
theorem ins_perm (i : Int) : ∀ l : List Int, (VI.insertI i l).Perm (i :: l)
  | [] => .refl _
  | j :: r => by
    unfold VI.insertI
    split
    · exact .refl _
    · exact ((ins_perm i r).cons j).trans (.swap ..)
theorem sort_perm : ∀ l : List Int, (VI.sortI l).Perm l
  | [] => .refl _
  | i :: r => by
    unfold VI.sortI
    exact (ins_perm i _).trans ((sort_perm r).cons i)
theorem ins_sorted (i : Int) : ∀ {l : List Int}, l.Pairwise (· ≤ ·) → (VI.insertI i l).Pairwise (· ≤ ·)
  | [], _ => by simp [VI.insertI]
  | j :: r, h => by
    obtain ⟨h1, h2⟩ := List.pairwise_cons.mp h
    unfold VI.insertI
    split
    · rename_i c
      refine List.pairwise_cons.mpr ⟨fun y hy => ?_, h⟩
      rcases List.mem_cons.mp hy with e | hy
      · subst e; exact c
      · exact Int.le_trans c (h1 y hy)
    · rename_i c
      refine List.pairwise_cons.mpr ⟨fun y hy => ?_, ins_sorted i h2⟩
      rcases List.mem_cons.mp ((ins_perm i r).mem_iff.mp hy) with e | hy
      · subst e; omega
      · exact h1 y hy
theorem sort_sorted : ∀ l : List Int, (VI.sortI l).Pairwise (· ≤ ·)
  | [] => .nil
  | i :: r => by
    unfold VI.sortI
    exact ins_sorted i (sort_sorted r)
theorem sort_unique {l m : List Int} (p : m.Perm l) (s : m.Pairwise (· ≤ ·)) : m = VI.sortI l :=
  (p.trans (sort_perm l).symm).eq_of_pairwise (fun a b _ _ h1 h2 => Int.le_antisymm h1 h2) s (sort_sorted l)
/-- sorted(d), int keys -/
theorem cr_sortedDI {X : Cx} (hcalm : X.calm = true) : CallR X (.builtin "sorted") (fun xs H Q => ∃ (a : Addr) (kvs : List (Key × V)) (ns : List Int), xs = [.ref a] ∧ Rd H a (.dK kvs) ∧ kvs.map (·.1) = ns.map Sum.inl ∧ ∀ p, H p = none → Q (.ref p) (upd H p (.lst ((VI.sortI ns).map V.int)))) := by
  intro pins s σ H xs us Q I r q
  obtain ⟨a, kvs, ns, ex, hd, hks, q⟩ := q
  subst ex
  obtain ⟨u, eu, rx⟩ := vals1 r
  subst eu
  cases rx
  obtain ⟨z, lo, vs, rel, dd⟩ := dk_rd I.hok hd
  obtain ⟨ep, hat⟩ := dd.dictAt
  have hkeys : vs.map (·.1) = ns.map Sum.inl := rel.keys.symm.trans hks
  have hl : vs.length = ns.length := by
    have e := congrArg List.length hkeys
    rw [List.length_map, List.length_map] at e
    exact e
  have h16 : vs.length ≤ sizeLine := by rw [← rel.length]; exact z
  refine Calls.call_function_entry PyProof.Rows.kind_sorted PyProof.Rows.plain_sorted PyProof.Rows.entry_sorted (PyProof.Rows.args_sorted1 _) ?_
  unfold Builtin.«sorted»
  refine wpAny_bind (m := checkCount "sorted" 1 1 _) (wpAny_pure ?_)
  refine wpAny_bind (PySem.W.kdu_collect (A := X.A.in1) (PySem.W.kdl_dict (knd := mixKind X.prog X.w) (kvs := vs) (ep := ep) lo) (I.ok.hd hcalm) hat h16 fun h' tk acc hk hacc => ?_)
  have hal : acc.toList.length = ns.length := by rw [Array.length_toList, hacc.1, hl]
  have hV : Vals (ns.map V.int) acc.toList := by
    refine vals_of_at (by rw [List.length_map, hal]) fun j x w h1 h2 => ?_
    obtain ⟨k, y, hky, hi⟩ := hacc.2 j w (by rw [← Array.getElem?_toList]; exact h2)
    have e3 : (vs.map (·.1))[j]? = some k := by rw [List.getElem?_map, hky]; all_goals rfl
    rw [hkeys, List.getElem?_map] at e3
    rw [List.getElem?_map] at h1
    cases e4 : ns[j]? with
    | none => rw [e4] at e3; cases e3
    | some n =>
      rw [e4] at e3 h1
      cases h1
      have e5 : Sum.inl n = k := Option.some.inj e3
      subst e5
      exact keyIs_rel (k := .inl n) hi
  have hI : IntsAre acc.toList ns := hV.ints
  have I1 : Inv X pins σ H { s with heap := h', toks := tk } := I.kept hk
  refine wpAny_bind (wpAny_newList ?_ (by rw [hal, ← hl]; exact h16))
  have hoL : (h'.push (seqObj "list" acc.toList.toArray 0)).get? h'.objs.size = some (seqObj "list" acc.toList.toArray 0) := Heap.get?_push_size _ rfl
  show wpAny _ _ _ _ _ { s with heap := h'.push (seqObj "list" acc.toList.toArray 0), toks := tk }
  refine wpAny_bind (wpAny_holding (wpAny_call_entry PyProof.Rows.slot_list_sort ⟨_, hoL, rfl⟩ PyProof.Rows.entry_list_sort
    (SrtO.list_sort_ord (s := { s with heap := h'.push (seqObj "list" acc.toList.toArray 0), toks := tk }) SrtO.swo_int hoL (by rw [hal, ← hl]; exact h16) (fun h2 => SrtO.ints_sortable hI h2) fun out h1 h2 => ⟨_, rfl, ?_⟩)
    (PyProof.Rows.args_list_sort _)))
  obtain ⟨k1, k2, k3⟩ := SrtO.ints_out hI h1 h2
  obtain ⟨e', he'⟩ := PyProof.Rows.sortedHeap_at (vs := acc.toList) (out := out.toArray) hoL
  have es := sort_unique k2 k3
  rw [es] at k1
  have hlen : ((VI.sortI ns).map V.int).length ≤ sizeLine := by
    rw [List.length_map, (sort_perm ns).length_eq, ← hl]
    exact h16
  refine wpAny_pure ⟨_, rfl, .ref h'.objs.size, upd H h'.objs.size (.lst ((VI.sortI ns).map V.int)), I1.laid (t' := tk) (fun b u e => ?_) (Nat.le_refl _)
    (show ObjOk X.prog X.w _ _ _ (.lst ((VI.sortI ns).map V.int)) from ⟨hlen, out, e', vals_of_ints k1, he'⟩), rfl, q _ (I1.hok.fresh (Nat.le_refl _))⟩
  have hb : b < h'.objs.size := Heap.lt_size e
  rw [PyProof.Rows.sortedHeap_old (Nat.ne_of_lt hb) (by rw [size_push']; exact Nat.lt_succ_of_lt hb)]
  exact Heap.get?_push_of_some _ e
/-! ### lists of ints, of truths -/
section
variable {G : Nms} {K : PySem.W.Frag} {w : Wd} {H : Hp} {st st' : VI.St}
theorem ints_of : ∀ {l : List VI.D} {vs : List V} {ns : List Int}, VRs K w l vs → VI.intsOf l = some ns → vs = ns.map V.int
  | [], vs, ns, h, e => by
    simp only [VRs] at h
    simp only [VI.intsOf, Option.some.injEq] at e
    subst h e; rfl
  | d :: r, vs, ns, h, e => by
    simp only [VRs] at h
    obtain ⟨x, xs, rfl, h1, h2⟩ := h
    cases d with
    | int i =>
      simp only [VI.intsOf] at e
      obtain ⟨m, e1, e2⟩ := Option.map_eq_some_iff.mp e
      subst e2
      rw [List.map_cons, h1.int_eq, ints_of h2 e1]
    | _ => cases e
theorem bls_of : ∀ {l : List VI.D} {vs : List V} {ns : List Bool}, VRs K w l vs → VI.blsOf l = some ns → vs = ns.map V.bl
  | [], vs, ns, h, e => by
    simp only [VRs] at h
    simp only [VI.blsOf, Option.some.injEq] at e
    subst h e; rfl
  | d :: r, vs, ns, h, e => by
    simp only [VRs] at h
    obtain ⟨x, xs, rfl, h1, h2⟩ := h
    cases d with
    | bl i =>
      simp only [VI.blsOf] at e
      obtain ⟨m, e1, e2⟩ := Option.map_eq_some_iff.mp e
      subst e2
      rw [List.map_cons, h1.bl_eq, bls_of h2 e1]
    | _ => cases e
theorem VRs.ints : ∀ (ns : List Int), VRs K w (ns.map VI.D.int) (ns.map V.int)
  | [] => .nil
  | n :: r => .cons .intI (VRs.ints r)
theorem key_ints : ∀ {l : List (VI.Ky × VI.D)} {vs : List (Key × V)} {ns : List Int}, KR K w l vs → VI.keyInts l = some ns → vs.map (·.1) = ns.map Sum.inl
  | [], vs, ns, h, e => by
    cases h
    simp only [VI.keyInts, Option.some.injEq] at e
    subst e; rfl
  | (k, d) :: r, vs, ns, h, e => by
    obtain ⟨x, xs, rfl, h1, h2⟩ := h
    cases k with
    | inl i =>
      simp only [VI.keyInts] at e
      obtain ⟨m, e1, e2⟩ := Option.map_eq_some_iff.mp e
      subst e2
      rw [List.map_cons, List.map_cons, key_ints h2 e1]
      rfl
    | inr _ => cases e
theorem VRs.one_of {d : VI.D} {vs : List V} (h : VRs K w [d] vs) : ∃ v, vs = [v] ∧ VR K w d v := by
  simp only [VRs] at h
  obtain ⟨x, xs, rfl, h1, rfl⟩ := h
  exact ⟨x, rfl, h1⟩
theorem VRs.two_of {d e : VI.D} {vs : List V} (h : VRs K w [d, e] vs) : ∃ v u, vs = [v, u] ∧ VR K w d v ∧ VR K w e u := by
  simp only [VRs] at h
  obtain ⟨x, xs, rfl, h1, y, ys, rfl, h2, rfl⟩ := h
  exact ⟨x, y, rfl, h1, h2⟩
end
/-! ### built-in functions -/
/-- the name's value -/
def biV : VI.Bi → Value
  | .len => .builtin "len"
  | .int => .type "int"
  | .tuple => .type "tuple"
  | .list => .type "list"
  | .min => .builtin "min"
  | .max => .builtin "max"
  | .sum => .builtin "sum"
  | .sorted => .builtin "sorted"
  | .all => .builtin "all"
  | .any => .builtin "any"
  | .abs => .builtin "abs"
  | .ord => .builtin "ord"
section
variable {G : Nms} {X : Cx}
theorem cr_lenD : CallR X (.builtin "len") (fun xs H Q => ∃ a kvs, xs = [.ref a] ∧ Rd H a (.dK kvs) ∧ Q (.int (kvs.length : Nat)) H) := by
  intro pins s σ H xs us Q I r h
  obtain ⟨a, kvs, rfl, hd, q⟩ := h
  obtain ⟨u, rfl, rx⟩ := vals1 r
  cases rx
  exact d_len I hd fun t s' I' => ⟨.int (kvs.length : Nat), H, I', ⟨t, rfl⟩, q⟩
theorem cr_bi (hc : X.calm = true) (b : VI.Bi) (own : Bool) : CallR X (biV b) (rdL G X.K (VI.biM b own)) := by
  intro pins s σ H xs us Q I rv h
  obtain ⟨w, st, l, a, sr, rs, d, st', e, q⟩ := h
  have app : (∃ R : List V → Hp → VK → Prop, CallR X (biV b) R ∧ R xs H Q) → wpAny (model X.prog X.w) X.A (call (biV b) us) (EP X pins σ Q) X.xe s := fun ⟨R, h1, h2⟩ => h1 pins s σ H xs us Q I rv h2
  unfold VI.biM at e
  split at e
  · -- len
    rename_i dd
    obtain ⟨v, rfl, k⟩ := rs.one_of
    have lst : ∀ {p : Addr} {l : List VI.D} {vs : List V}, v = .ref p → SqL X.K H p vs → VRs X.K w l vs → d = .int (l.length : Nat) → st' = st → wpAny (model X.prog X.w) X.A (call (biV .len) us) (EP X pins σ Q) X.xe s := fun {p l vs} ep hp rs2 ed es => by
      subst ep ed es
      refine app ⟨_, call_len, _, vs.length, rfl, .inl ⟨vs, hp, rfl⟩, ?_⟩
      rw [rs2.length]
      exact here q a sr .intI
    split at e
    · rename_i x
      split at e
      · rename_i hx
        cases e
        rw [k.str_eq] at app
        refine app ⟨_, call_len, _, x.length, rfl, ⟨by rw [toS_len, ← LINE_eq]; exact hx, (toS_len x).symm⟩, here q a sr .intI⟩
      · cases e
    · cases e
      obtain ⟨p, vs, rfl, hp, rs2⟩ := k.tup_of
      refine app ⟨_, call_len, _, vs.length, rfl, .inr ⟨vs, hp.sq a, rfl⟩, ?_⟩
      rw [rs2.length]
      exact here q a sr .intI
    · cases e
      obtain ⟨p, vs, rfl, hp, rs⟩ := k.lst_of
      exact lst rfl (.of (a.sub _ _ hp.1)) rs rfl rfl
    · cases e
      obtain ⟨p, vs, rfl, hp, rs⟩ := k.fro_of
      exact lst rfl (hp.sq a) rs rfl rfl
    · obtain ⟨_, rfl⟩ := k.ref_of
      split at e
      · rename_i x c
        cases e
        obtain ⟨vs, h1, h2⟩ := sr.lst c
        exact lst rfl (.of (a.sub _ _ h1)) h2 rfl rfl
      · rename_i lk kvs c
        cases e
        obtain ⟨vs, h1, _, h2⟩ := sr.dic a c
        refine app ⟨_, cr_lenD, _, vs, rfl, h1, ?_⟩
        rw [h2.length]
        exact here q a sr .intI
      · cases e
    · cases e
  · -- int
    cases e
    obtain ⟨v, rfl, k⟩ := rs.one_of
    rw [k.int_eq] at app
    exact app ⟨_, call_int1, .inl ⟨_, rfl, here q a sr .intI⟩⟩
  · cases e
    obtain ⟨v, rfl, k⟩ := rs.one_of
    rw [k.bl_eq] at app
    exact app ⟨_, call_int1, .inr ⟨_, rfl, here q a sr .intI⟩⟩
  · -- tuple
    rename_i dd
    obtain ⟨v, rfl, k⟩ := rs.one_of
    obtain ⟨x, e1, e2⟩ := Option.map_eq_some_iff.mp e
    cases e2
    cases dd with
    | tup l' =>
      cases e1
      obtain ⟨p, vs, rfl, hp, rs⟩ := k.tup_of
      exact app ⟨_, call_tuple_of, p, vs, rfl, .inr ⟨hp.sq a, here q a sr (.tupI hp rs)⟩⟩
    | _ =>
      obtain ⟨p, vs, rfl, hp, rs⟩ := rdOf_ok (l := x) a sr k (by first | exact e1 | simpa [VI.seqOf, VI.rdOf] using e1)
      exact app ⟨_, call_tuple_of, p, vs, rfl, .inl ⟨hp, tup_new a sr rs q⟩⟩
  · -- list
    rename_i dd
    obtain ⟨v, rfl, k⟩ := rs.one_of
    split at e
    · rename_i x ex
      obtain ⟨p, vs, rfl, hp, rs⟩ := seqOf_ok a sr k ex
      exact app ⟨_, call_list_of, p, vs, rfl, hp, lst_new a sr rs e q⟩
    · cases e
  · -- min
    cases e
    obtain ⟨v, u, rfl, k1, k2⟩ := rs.two_of
    rw [k1.int_eq, k2.int_eq] at app
    exact app ⟨_, call_min2 hc, _, _, rfl, here q a sr .intI⟩
  · cases e
    obtain ⟨v, u, rfl, k1, k2⟩ := rs.two_of
    rw [k1.int_eq, k2.int_eq] at app
    exact app ⟨_, call_max2 hc, _, _, rfl, here q a sr .intI⟩
  · -- sum
    obtain ⟨v, rfl, k⟩ := rs.one_of
    obtain ⟨x, ex, e⟩ := Option.bind_eq_some_iff.mp e
    obtain ⟨ns, en, e2⟩ := Option.map_eq_some_iff.mp e
    cases e2
    obtain ⟨p, vs, rfl, hp, rs⟩ := rdOf_ok a sr k ex
    cases ints_of rs en
    exact app ⟨_, cr_sum hc, p, ns, rfl, hp, here q a sr .intI⟩
  · -- all
    obtain ⟨v, rfl, k⟩ := rs.one_of
    obtain ⟨x, ex, e⟩ := Option.bind_eq_some_iff.mp e
    obtain ⟨ns, en, e2⟩ := Option.map_eq_some_iff.mp e
    cases e2
    obtain ⟨p, vs, rfl, hp, rs⟩ := rdOf_ok a sr k ex
    cases bls_of rs en
    exact app ⟨_, cr_all hc, p, ns, rfl, hp, here q a sr .blI⟩
  · -- any
    obtain ⟨v, rfl, k⟩ := rs.one_of
    obtain ⟨x, ex, e⟩ := Option.bind_eq_some_iff.mp e
    obtain ⟨ns, en, e2⟩ := Option.map_eq_some_iff.mp e
    cases e2
    obtain ⟨p, vs, rfl, hp, rs⟩ := rdOf_ok a sr k ex
    cases bls_of rs en
    exact app ⟨_, cr_any hc, p, ns, rfl, hp, here q a sr .blI⟩
  · -- abs
    cases e
    obtain ⟨v, rfl, k⟩ := rs.one_of
    rw [k.int_eq] at app
    exact app ⟨_, call_abs, _, rfl, here q a sr .intI⟩
  · -- ord
    rename_i c
    cases e
    obtain ⟨v, rfl, k⟩ := rs.one_of
    rw [k.str_eq] at app
    exact app ⟨_, call_ord, _, rfl, rfl, here q a sr .intI⟩
  · -- sorted
    rename_i dd
    obtain ⟨v, rfl, k⟩ := rs.one_of
    split at e
    · rename_i x ex
      split at e
      · rename_i ns en
        obtain ⟨p, vs, rfl, hp, rs⟩ := rdOf_ok a sr k ex
        cases ints_of rs en
        refine app ⟨_, cr_sortedI, p, ns, rfl, hp, fun ns' p' hp1 hp2 hn => ?_⟩
        rw [sort_unique hp1 hp2]
        exact lst_new a sr (.ints _) e q p' hn
      · cases e
    · split at e
      · rename_i n
        obtain ⟨_, rfl⟩ := k.ref_of
        split at e
        · rename_i lk kvs c
          split at e
          · rename_i ns en
            obtain ⟨vs, h1, _, h2⟩ := sr.dic a c
            exact app ⟨_, cr_sortedDI hc, _, vs, ns, rfl, h1, key_ints h2 en, lst_new a sr (.ints _) e q⟩
          · cases e
        · cases e
      · cases e
  · cases e
end
end VIS
end

section
set_option Elab.async false
set_option linter.all false
set_option maxRecDepth 100000
set_option maxHeartbeats 1000000
namespace VIS
open PySem PySem.Spec PyProof.Rows L2
/-! ### the text's forms -/
def noStar : Expr → Bool
  | .Starred _ _ => false
  | _ => true
def noSet : Expr → Bool
  | .Set _ _ _ => false
  | _ => true
def noSlice : Expr → Bool
  | .Slice _ _ _ _ => false
  | _ => true
/-- no super() -/
def plainO : Expr → Bool
  | .Call _ _ _ _ => false
  | _ => true
theorem star_cons {e : Expr} {es : List Expr} {env : Env} (h : noStar e = true) : starEach (e :: es) env = (false, eval e env) :: starEach es env := by
  cases e <;> first | rfl | (simp [noStar] at h)
theorem star_all {env : Env} : ∀ {es : List Expr}, es.all noStar = true → starEach es env = es.map fun e => (false, eval e env)
  | [], _ => by simp [starEach]
  | e :: r, h => by
    rw [List.all_cons, Bool.and_eq_true] at h
    rw [star_cons h.1, star_all h.2, List.map_cons]
theorem back_map {env : Env} {pos : Pos} : ∀ (es : List Expr), backTo pos (es.map fun e => (false, eval e env)) = es.map fun e => (false, eval e env)
  | [] => rfl
  | e :: r => by
    have := back_map (env := env) (pos := pos) r
    unfold backTo at this ⊢
    rw [List.map_cons, List.map_cons, this]
    rfl
theorem back_any {es : List Expr} {env : Env} {pos : Pos} (h : es.all noStar = true) : (backTo pos (starEach es env)).any (·.1) = false := by
  rw [star_all h, back_map]
  simp
theorem back_allN {es : List Expr} {env : Env} {pos : Pos} (h : es.all noStar = true) : (backTo pos (starEach es env)).all (fun x => !x.1) = true := by
  rw [star_all h, back_map]
  simp
theorem base_ok {o : Expr} {f : Str} {env : Env} {w : Sem Value} (h : plainO o = true) : attributeBase o f env w = w := by
  cases o <;> first | rfl | (simp [plainO] at h)
theorem few_ok {es : List Expr} {env : Env} {pos : Pos} (h : es.all noStar = true) (hl : es.length < 30) : ((backTo pos (starEach es env)).all (fun x => !x.1) && (backToKw pos (keywordEach [] env)).all (fun x => x.1.isSome)
      && decide (es.length + ([] : List Keyword).length + (if ([] : List Keyword).isEmpty then 0 else 1) < 30)) = true := by
  rw [back_allN h]
  simp [keywordEach, backToKw, hl]
theorem meth_tree {o : Expr} {m : Str} {apos pos : Pos} {es : List Expr} {env : Env} (hb : plainO o = true) (h : es.all noStar = true) (hl : es.length < 30) (hp : (apos.endLine == pos.line) = true) :
    eval (.Call (.Attribute o m apos) es [] pos) env = (do
      let ov ← eval o env
      standAt apos.atName
      let (f, first) ← holding [ov] (getMethod ov m (do return (← importBound o env).getD true))
      callWith pos f first (backTo pos (starEach es env)) (backToKw pos (keywordEach [] env))) := by
  have hf : methodCallForm (es.length + ([] : List Keyword).length) (backTo pos (starEach es env)) (backToKw pos (keywordEach [] env)) = true := few_ok h hl
  rw [arm_eval_Call, base_ok hb]
  unfold methodCall
  rw [hf]
  unfold calleeOf methodCallPos
  simp only [hp, Bool.not_true, Bool.false_or, if_true, pure_bind]
theorem ix_plain {b : Expr} (h : noSlice b = true) : PlainIxT b := by
  intro o i
  cases b <;> first | rfl | (simp [noSlice] at h)
theorem marks_ok {op : CmpOp} {e : Expr} (h : noSet e = true) : behindInMarks op e = false := by
  cases e <;> first | rfl | (simp [noSet] at h)
theorem marks2_ok {op op' : CmpOp} {a b : Expr} (h : noSet b = true) : lastMarks [op, op'] [a, b] = false := by
  unfold lastMarks
  unfold lastMarks
  exact marks_ok h
theorem folded_ok {e : Expr} {env : Env} (h : noSet e = true) : ∀ x, foldedSetIterable e env x = pure x := by
  intro x
  cases e <;> first | rfl | (simp [noSet] at h)
/-- equal texts -/
def eqL : List Nat → List Nat → Bool
  | [], [] => true
  | a :: r, b :: q => Nat.beq a b && eqL r q
  | _, _ => false
theorem eqL_eq : ∀ {a b : List Nat}, eqL a b = true → a = b
  | [], [], _ => rfl
  | [], _ :: _, h => by simp [eqL] at h
  | _ :: _, [], h => by simp [eqL] at h
  | a :: r, b :: q, h => by
    simp only [eqL, Bool.and_eq_true] at h
    rw [Nat.eq_of_beq_eq_true h.1, eqL_eq h.2]
def eqS (a b : Str) : Bool := eqL a.cps.toList b.cps.toList
theorem eqS_eq {a b : Str} (h : eqS a b = true) : a = b := by
  have e := eqL_eq h
  cases a; cases b
  congr 1
  exact Array.ext' e
/-- a name's kind -/
def kindIn (l : List (Str × NameKind)) (x : Str) : Option NameKind := match l with
  | [] => none
  | (y, k) :: r => if eqS x y = true then some k else kindIn r x
theorem eqS_refl (a : Str) : eqS a a = true := by
  unfold eqS
  generalize a.cps.toList = l
  induction l with
  | nil => rfl
  | cons n r ih => simp [eqL, ih]
theorem kindIn_eq (x : Str) : ∀ l : List (Str × NameKind), kindIn l x = l.lookup x
  | [] => rfl
  | (y, k) :: r => by
    unfold kindIn
    rw [List.lookup_cons]
    by_cases h : eqS x y = true
    · rw [if_pos h, eqS_eq h]
      simp
    · have e : (x == y) = false := by
        rw [beq_eq_false_iff_ne]
        exact fun z => h (by rw [z]; exact eqS_refl y)
      rw [if_neg h, e]
      exact kindIn_eq x r
/-- comprehensions whose value a statement uses at once -/
def swB (sc : List (Str × NameKind)) (e tg : Expr) : Bool := match e with
  | .ListComp _ _ s p => (match tg with
    | .Name t q => (match kindIn sc t with
      | some .local => (q.line == p.line) && !(s.names.any fun (n, k) => n == t && (k == .local || k == .cell))
      | _ => false)
    | _ => false)
  | .SetComp _ _ _ _ => true
  | .DictComp _ _ _ _ _ => true
  | _ => false
theorem sw_no {e tg : Expr} {l : Nat} {env : Env} (hk : env.scope.kind = .function) (h : swB env.scope.names e tg = false) : swapsWith e (some tg) l env = pure false := by
  have hb : env.blockKind = .function := by unfold Env.blockKind; rw [hk]; rfl
  cases e with
  | ListComp elt gs s p =>
    cases tg with
    | Name t q =>
      simp only [swB] at h
      unfold swapsWith
      rw [kindIn_eq] at h
      have ek : env.kindOf t = env.scope.names.lookup t := rfl
      simp only [hb, ek, Expr.pos]
      cases c : env.scope.names.lookup t with
      | none => simp
      | some k =>
        rw [c] at h
        cases k with
        | «local» => exact congrArg pure (by simpa using h)
        | _ => rfl
    | _ => rfl
  | SetComp _ _ _ _ => simp [swB] at h
  | DictComp _ _ _ _ _ => simp [swB] at h
  | _ => rfl
def noComp : Expr → Bool
  | .ListComp _ _ _ _ => false
  | .SetComp _ _ _ _ => false
  | .DictComp _ _ _ _ _ => false
  | _ => true
theorem sw_none {e : Expr} {t : Option Expr} {l : Nat} {env : Env} (h : noComp e = true) : swapsWith e t l env = pure false := by
  cases e <;> first | rfl | (simp [noComp] at h)
end VIS
end

section
set_option Elab.async false
set_option linter.all false
set_option maxRecDepth 100000
set_option maxHeartbeats 1000000
namespace VIS
open PySem PySem.Spec PyProof.Rows L2
def rdA (G : Nms) (K : PySem.W.Frag) (ev : VI.Env → VI.M (List VI.D)) : TA := fun σ H Q => ∃ w st ρ, At w H ∧ StR G K w st ∧ ER K w ρ σ ∧ ∃ ds st', ev ρ st = some (ds, st') ∧ ∀ w' H' vs, Step w w' H H' → StR G K w' st' → VRs K w' ds vs → Q vs H'
def rdT (G : Nms) (K : PySem.W.Frag) (ev : VI.Env → VI.M Bool) : TT := fun σ H Q => ∃ w st ρ, At w H ∧ StR G K w st ∧ ER K w ρ σ ∧ ∃ b st', ev ρ st = some (b, st') ∧ ∀ w' H', Step w w' H H' → StR G K w' st' → Q b H'
def rdO (G : Nms) (K : PySem.W.Frag) (ev : VI.Env → VI.M (Option Int)) : TO := fun σ H Q => ∃ w st ρ, At w H ∧ StR G K w st ∧ ER K w ρ σ ∧ ∃ b st', ev ρ st = some (b, st') ∧ ∀ w' H', Step w w' H H' → StR G K w' st' → Q b H'
section
variable {X : Cx} {e : Expr}
theorem PE.imp {t t' : TE} (h : PE X e t) (k : ∀ σ H Q, t' σ H Q → t σ H Q) : PE X e t' := ⟨fun pins s σ H Q I q => h.run pins s σ H Q I (k _ _ _ q)⟩
theorem PT.imp {t t' : TT} (h : PT X e t) (k : ∀ σ H Q, t' σ H Q → t σ H Q) : PT X e t' := ⟨fun pins s σ H Q I q => h.run pins s σ H Q I (k _ _ _ q)⟩
theorem PW.imp {t t' : TT} (h : PW X e t) (k : ∀ σ H Q, t' σ H Q → t σ H Q) : PW X e t' := ⟨fun wh pins s σ H Q I q => h.run wh pins s σ H Q I (k _ _ _ q)⟩
theorem PA.imp {es : List Expr} {t t' : TA} (h : PA X es t) (k : ∀ σ H Q, t' σ H Q → t σ H Q) : PA X es t' := ⟨fun pos pins s σ H Q I q => h.run pos pins s σ H Q I (k _ _ _ q)⟩
theorem PO.imp {o : Option Expr} {t t' : TO} (h : PO X o t) (k : ∀ σ H Q, t' σ H Q → t σ H Q) : PO X o t' := ⟨fun pins s σ H Q I q => h.run pins s σ H Q I (k _ _ _ q)⟩
end
section
variable {G : Nms} {X : Cx} {pos : Pos} {a b c : Expr} {ea eb ec : VI.Env → VI.M VI.D}
theorem r_slot {i : Nat} {x : Str} (hN : X.N[i]? = some x) (hv : Vis X.env.scope x) (hd : (x == ("__debug__" : Str)) = false) (hcd : (x == ("__classdict__" : Str)) = false) :
    PE X (.Name x pos) (rdE G X.K fun ρ => VI.opt (VI.slotD ρ i)) := by
  refine PE.imp (pe_var hN hv hd hcd) fun σ H Q ⟨w, st, ρ, a, s, e, d, st', eq, q⟩ => ?_
  have eq : VI.opt (VI.slotD ρ i) st = some (d, st') := eq
  unfold VI.opt VI.slotD at eq
  cases c : ρ[i]? with
  | none => rw [c] at eq; cases eq
  | some o =>
    rw [c] at eq
    cases o with
    | none => cases eq
    | some d' =>
      cases eq
      obtain ⟨v, h1, h2⟩ := e.at_ i _ c
      exact ⟨v, h1, here q a s h2⟩
theorem r_val {d : VI.D} {v : V} (h : PE X e (tC v)) (r : ∀ w, VR X.K w d v) : PE X e (rdE G X.K fun _ => VI.ret d) := by
  refine PE.imp h fun σ H Q ⟨w, st, ρ, a, s, e, d', st', eq, q⟩ => ?_
  cases eq
  exact here q a s (r w)
theorem r_bop (o : VI.Bop) (own : Bool) (ha : PE X a (rdE G X.K ea)) (hb : PE X b (rdE G X.K eb)) : PE X (.BinOp a (bO o) b pos) (rdE G X.K fun ρ => VI.bnd (ea ρ) fun x => VI.bnd (eb ρ) fun y => VI.bopM o own x y) :=
  PE.imp (pe_op (op_bop o own) ha hb) fun _ _ _ h => bin_rd h
theorem r_cmp (hu : X.A.units + 65 < cLine) (o : VI.Cop) (hm : noSet b = true) (ha : PE X a (rdE G X.K ea)) (hb : PE X b (rdE G X.K eb)) :
    PE X (.Compare a [cO o] [b] pos) (rdE G X.K fun ρ => VI.bnd (ea ρ) fun x => VI.bnd (eb ρ) fun y => copD o x y) :=
  PE.imp (pe_cmpR (op_cop (G := G) hu o) ha hb (marks_ok hm)) fun _ _ _ h => bin_rd h
theorem r_neg (ha : PE X a (rdE G X.K ea)) : PE X (.UnaryOp .USub a pos) (rdE G X.K fun ρ => VI.bnd (ea ρ) fun x => match x with
    | .int i => VI.ret (.int (-i))
    | _ => VI.fail) := by
  refine PE.imp (pe_un un_neg ha) fun σ H Q ⟨w, st, ρ, a, s, e, d, st', eq, q⟩ => ?_
  obtain ⟨x, s1, e1, eq⟩ := bnd_some.mp eq
  refine ⟨w, st, ρ, a, s, e, x, s1, e1, fun w1 H1 v1 p1 r1 k1 => ?_⟩
  cases x with
  | int i =>
    cases eq
    exact ⟨i, k1.int_eq, q w1 H1 _ p1 r1 .intI⟩
  | _ => cases eq
/-! #### truth -/
theorem tru_bnd {m : VI.M VI.D} {st st' : VI.St} {k : Bool} (h : VI.bnd m VI.truthM st = some (k, st')) : ∃ x s1, m st = some (x, s1) ∧ VI.truthM x s1 = some (k, st') := bnd_some.mp h
theorem r_not (ha : PE X a (rdE G X.K ea)) : PE X (.UnaryOp .Not a pos) (rdE G X.K fun ρ => VI.bnd (ea ρ) fun x => VI.bnd (VI.truthM x) fun b => VI.ret (.bl (!b))) := by
  refine PE.imp (pe_notT ha) fun σ H Q ⟨w, st, ρ, a, s, e, d, st', eq, q⟩ => ?_
  obtain ⟨x, s1, e1, eq⟩ := bnd_some.mp eq
  obtain ⟨k, s2, e2, eq⟩ := bnd_some.mp eq
  cases eq
  refine ⟨w, st, ρ, a, s, e, x, s1, e1, fun w1 H1 v1 p1 r1 k1 => ?_⟩
  obtain ⟨rfl, t⟩ := tru_v p1.at_ r1 k1 e2
  exact ⟨k, t, q w1 H1 _ p1 r1 .blI⟩
theorem r_and {rest : List Expr} (ha : PE X a (rdE G X.K ea)) (hb : PE X (.BoolOp .And (b :: rest) pos) (rdE G X.K eb)) :
    PE X (.BoolOp .And (a :: b :: rest) pos) (rdE G X.K fun ρ => VI.bnd (ea ρ) fun x => VI.bnd (VI.truthM x) fun k => if k = true then eb ρ else VI.ret x) := by
  refine PE.imp (pe_andT ha hb) fun σ H Q ⟨w, st, ρ, a, s, e, d, st', eq, q⟩ => ?_
  obtain ⟨x, s1, e1, eq1⟩ := bnd_some.mp eq
  obtain ⟨k, s2, e2, eq2⟩ := bnd_some.mp eq1
  clear eq eq1
  refine ⟨w, st, ρ, a, s, e, x, s1, e1, fun w1 H1 v1 p1 r1 k1 => ?_⟩
  obtain ⟨rfl, t⟩ := tru_v p1.at_ r1 k1 e2
  refine ⟨k, t, ?_⟩
  split
  · rename_i hk
    rw [if_pos hk] at eq2
    exact ⟨w1, s2, ρ, p1.at_, r1, e.mono p1.le, d, st', eq2, fun w2 H2 v2 p2 => q w2 H2 v2 (p1.trans p2)⟩
  · rename_i hk
    rw [if_neg hk] at eq2
    cases eq2
    exact q w1 H1 v1 p1 r1 k1
theorem r_or {rest : List Expr} (ha : PE X a (rdE G X.K ea)) (hb : PE X (.BoolOp .Or (b :: rest) pos) (rdE G X.K eb)) :
    PE X (.BoolOp .Or (a :: b :: rest) pos) (rdE G X.K fun ρ => VI.bnd (ea ρ) fun x => VI.bnd (VI.truthM x) fun k => if k = true then VI.ret x else eb ρ) := by
  refine PE.imp (pe_orT ha hb) fun σ H Q ⟨w, st, ρ, a, s, e, d, st', eq, q⟩ => ?_
  obtain ⟨x, s1, e1, eq1⟩ := bnd_some.mp eq
  obtain ⟨k, s2, e2, eq2⟩ := bnd_some.mp eq1
  clear eq eq1
  refine ⟨w, st, ρ, a, s, e, x, s1, e1, fun w1 H1 v1 p1 r1 k1 => ?_⟩
  obtain ⟨rfl, t⟩ := tru_v p1.at_ r1 k1 e2
  refine ⟨k, t, ?_⟩
  split
  · rename_i hk
    rw [if_pos hk] at eq2
    cases eq2
    exact q w1 H1 v1 p1 r1 k1
  · rename_i hk
    rw [if_neg hk] at eq2
    exact ⟨w1, s2, ρ, p1.at_, r1, e.mono p1.le, d, st', eq2, fun w2 H2 v2 p2 => q w2 H2 v2 (p1.trans p2)⟩
/-! #### tests -/
/-- a value's truth as a test -/
abbrev tst (ev : VI.Env → VI.M VI.D) : VI.Env → VI.M Bool := fun ρ => VI.bnd (ev ρ) VI.truthM
theorem t_val (he : ∀ whole, isTrue a X.env whole = (do let v ← whole; standAt a.pos; holding [v] (truthy v))) (ha : PE X a (rdE G X.K ea)) : PT X a (rdT G X.K (tst ea)) := by
  refine PT.imp (pt_truth ha he) fun σ H Q ⟨w, st, ρ, a, s, e, d, st', eq, q⟩ => ?_
  obtain ⟨x, s1, e1, eq⟩ := bnd_some.mp eq
  refine ⟨w, st, ρ, a, s, e, x, s1, e1, fun w1 H1 v1 p1 r1 k1 => ?_⟩
  obtain ⟨rfl, t⟩ := tru_v p1.at_ r1 k1 eq
  exact ⟨d, t, q w1 H1 p1 r1⟩
theorem tru_bl {b k : Bool} {s s' : VI.St} (h : VI.truthM (.bl b) s = some (k, s')) : k = b ∧ s' = s := by
  simp only [VI.truthM, Option.some.injEq, Prod.mk.injEq] at h
  exact ⟨h.1.symm, h.2.symm⟩
theorem t_not (ha : PT X a (rdT G X.K (tst ea))) : PT X (.UnaryOp .Not a pos) (rdT G X.K (tst fun ρ => VI.bnd (ea ρ) fun x => VI.bnd (VI.truthM x) fun b => VI.ret (.bl (!b)))) := by
  refine PT.imp (pt_not ha) fun σ H Q ⟨w, st, ρ, a, s, e, d, st', eq, q⟩ => ?_
  obtain ⟨y, s1, e1, eq⟩ := bnd_some.mp eq
  obtain ⟨x, s2, e2, e3⟩ := bnd_some.mp e1
  obtain ⟨k, s3, e4, e5⟩ := bnd_some.mp e3
  cases e5
  obtain ⟨rfl, rfl⟩ := tru_bl eq
  exact ⟨w, st, ρ, a, s, e, k, st', bnd_some.mpr ⟨x, s2, e2, e4⟩, fun w1 H1 p1 r1 => q w1 H1 p1 r1⟩
theorem tru_same {x : VI.D} {s s1 s2 : VI.St} {k k' : Bool} (h : VI.truthM x s = some (k, s1)) (h' : VI.truthM x s1 = some (k', s2)) : k' = k ∧ s2 = s1 := by
  have e : s1 = s := by
    unfold VI.truthM at h
    split at h
    all_goals first
      | (cases h; rfl)
      | (split at h <;> first | (cases h; rfl) | cases h)
  subst e
  rw [h] at h'
  cases h'
  exact ⟨rfl, rfl⟩
theorem w_and1 (ha : PT X a (rdT G X.K (tst ea))) : PW X (.BoolOp .And [a] pos) (rdT G X.K (tst ea)) := pw_and1 ha
theorem w_or1 (ha : PT X a (rdT G X.K (tst ea))) : PW X (.BoolOp .Or [a] pos) (rdT G X.K (tst ea)) := pw_or1 ha
theorem w_and {rest : List Expr} (ha : PT X a (rdT G X.K (tst ea))) (hb : PW X (.BoolOp .And (b :: rest) pos) (rdT G X.K (tst eb))) :
    PW X (.BoolOp .And (a :: b :: rest) pos) (rdT G X.K (tst fun ρ => VI.bnd (ea ρ) fun x => VI.bnd (VI.truthM x) fun k => if k = true then eb ρ else VI.ret x)) := by
  refine PW.imp (pw_and ha hb) fun σ H Q ⟨w, st, ρ, a, s, e, d, st', eq, q⟩ => ?_
  obtain ⟨y, s1, e1, eq⟩ := bnd_some.mp eq
  obtain ⟨x, s2, e2, e3⟩ := bnd_some.mp e1
  obtain ⟨k, s3, e4, e5⟩ := bnd_some.mp e3
  refine ⟨w, st, ρ, a, s, e, k, s3, bnd_some.mpr ⟨x, s2, e2, e4⟩, fun w1 H1 p1 r1 => ?_⟩
  cases k with
  | true =>
    rw [if_pos rfl] at e5 ⊢
    exact ⟨w1, s3, ρ, p1.at_, r1, e.mono p1.le, d, st', bnd_some.mpr ⟨y, s1, e5, eq⟩, fun w2 H2 p2 => q w2 H2 (p1.trans p2)⟩
  | false =>
    rw [if_neg Bool.false_ne_true] at e5 ⊢
    cases e5
    obtain ⟨rfl, rfl⟩ := tru_same e4 eq
    exact q w1 H1 p1 r1
theorem w_or {rest : List Expr} (ha : PT X a (rdT G X.K (tst ea))) (hb : PW X (.BoolOp .Or (b :: rest) pos) (rdT G X.K (tst eb))) :
    PW X (.BoolOp .Or (a :: b :: rest) pos) (rdT G X.K (tst fun ρ => VI.bnd (ea ρ) fun x => VI.bnd (VI.truthM x) fun k => if k = true then VI.ret x else eb ρ)) := by
  refine PW.imp (pw_or ha hb) fun σ H Q ⟨w, st, ρ, a, s, e, d, st', eq, q⟩ => ?_
  obtain ⟨y, s1, e1, eq⟩ := bnd_some.mp eq
  obtain ⟨x, s2, e2, e3⟩ := bnd_some.mp e1
  obtain ⟨k, s3, e4, e5⟩ := bnd_some.mp e3
  refine ⟨w, st, ρ, a, s, e, k, s3, bnd_some.mpr ⟨x, s2, e2, e4⟩, fun w1 H1 p1 r1 => ?_⟩
  cases k with
  | false =>
    rw [if_neg Bool.false_ne_true] at e5 ⊢
    exact ⟨w1, s3, ρ, p1.at_, r1, e.mono p1.le, d, st', bnd_some.mpr ⟨y, s1, e5, eq⟩, fun w2 H2 p2 => q w2 H2 (p1.trans p2)⟩
  | true =>
    rw [if_pos rfl] at e5 ⊢
    cases e5
    obtain ⟨rfl, rfl⟩ := tru_same e4 eq
    exact q w1 H1 p1 r1
theorem t_cmp (hu : X.A.units + 65 < cLine) (o : VI.Cop) (hm : noSet b = true) (ha : PE X a (rdE G X.K ea)) (hb : PE X b (rdE G X.K eb)) :
    PT X (.Compare a [cO o] [b] pos) (rdT G X.K (tst fun ρ => VI.bnd (ea ρ) fun x => VI.bnd (eb ρ) fun y => copD o x y)) := by
  refine PT.imp (pt_cmpR (op_cop (G := G) hu o) ha hb (marks_ok hm)) fun σ H Q ⟨w, st, ρ, a, s, e, d, st', eq, q⟩ => ?_
  obtain ⟨y, s1, e1, eq⟩ := bnd_some.mp eq
  refine bin_rd ⟨w, st, ρ, a, s, e, y, s1, e1, fun w1 H1 v1 p1 r1 k1 => ?_⟩
  obtain ⟨x1, s2, e2, e3⟩ := bnd_some.mp e1
  obtain ⟨x2, s3, e4, e5⟩ := bnd_some.mp e3
  obtain ⟨r, s4, e6, e7⟩ := bnd_some.mp e5
  cases e7
  obtain ⟨rfl, rfl⟩ := tru_bl eq
  exact ⟨d, k1.bl_eq, q w1 H1 p1 r1⟩
end
end VIS
end

section
set_option Elab.async false
set_option linter.all false
set_option maxRecDepth 100000
set_option maxHeartbeats 1000000
namespace VIS
open PySem PySem.Spec PyProof.Rows L2
section
variable {G : Nms} {X : Cx} {pos : Pos} {a b c : Expr} {ea eb ec : VI.Env → VI.M VI.D} {es : List Expr} {el : VI.Env → VI.M (List VI.D)}
/-! #### chains -/
def chnM (o o' : VI.Cop) (ea eb ec : VI.Env → VI.M VI.D) : VI.Env → VI.M VI.D := fun ρ => VI.bnd (ea ρ) fun x => VI.bnd (eb ρ) fun y => VI.bnd (VI.copM o x y) fun r =>
  if r = true then VI.bnd (ec ρ) fun z => VI.bnd (VI.copM o' y z) fun r => VI.ret (.bl r) else VI.ret (.bl false)
theorem chain_rd {o o' : VI.Cop} {σ : L2.St} {H : Hp} {Q : VK} (h : rdE G X.K (chnM o o' ea eb ec) σ H Q) : tChain (rd2 G X.K (copD o)) (rd2 G X.K (copD o')) (rdE G X.K ea) (rdE G X.K eb) (rdE G X.K ec) σ H Q := by
  obtain ⟨w, st, ρ, a, s, e, d, st', eq, q⟩ := h
  obtain ⟨x, s1, e1, q1⟩ := bnd_some.mp eq
  obtain ⟨y, s2, e2, q2⟩ := bnd_some.mp q1
  obtain ⟨r, s3, e3, q3⟩ := bnd_some.mp q2
  clear eq q1 q2
  refine ⟨w, st, ρ, a, s, e, x, s1, e1, fun w1 H1 v1 p1 r1 k1 => ?_⟩
  refine ⟨w1, s1, ρ, p1.at_, r1, e.mono p1.le, y, s2, e2, fun w2 H2 v2 p2 r2 k2 => ?_⟩
  refine ⟨w2, s2, x, y, p2.at_, r2, k1.mono p2.le, k2, .bl r, s3, bnd_some.mpr ⟨r, s3, e3, rfl⟩, fun w3 H3 v3 p3 r3 k3 => ?_⟩
  refine ⟨r, k3.bl_eq, ?_⟩
  cases r with
  | true =>
    rw [if_pos rfl] at q3 ⊢
    obtain ⟨z, s4, e4, q4⟩ := bnd_some.mp q3
    refine ⟨w3, s3, ρ, p3.at_, r3, ((e.mono p1.le).mono p2.le).mono p3.le, z, s4, e4, fun w4 H4 v4 p4 r4 k4 => ?_⟩
    refine ⟨w4, s4, y, z, p4.at_, r4, (k2.mono p3.le).mono p4.le, k4, d, st', q4, fun w5 H5 v5 p5 => q w5 H5 v5 (((p1.trans p2).trans p3).trans (p4.trans p5))⟩
  | false =>
    rw [if_neg Bool.false_ne_true] at q3 ⊢
    cases q3
    exact q w3 H3 _ ((p1.trans p2).trans p3) r3 .blI
theorem r_chain (hu : X.A.units + 65 < cLine) (o o' : VI.Cop) (hm : noSet c = true) (ha : PE X a (rdE G X.K ea)) (hb : PE X b (rdE G X.K eb)) (hc : PE X c (rdE G X.K ec)) :
    PE X (.Compare a [cO o, cO o'] [b, c] pos) (rdE G X.K (chnM o o' ea eb ec)) :=
  PE.imp (pe_chain (op_cop (G := G) hu o) (op_cop (G := G) hu o') ha hb hc (marks2_ok hm)) fun _ _ _ h => chain_rd h
theorem chain_bl {o o' : VI.Cop} {ρ : VI.Env} {s s' : VI.St} {d : VI.D} (h : chnM o o' ea eb ec ρ s = some (d, s')) : ∃ k, d = .bl k := by
  obtain ⟨x, s1, e1, q1⟩ := bnd_some.mp h
  obtain ⟨y, s2, e2, q2⟩ := bnd_some.mp q1
  obtain ⟨r, s3, e3, q3⟩ := bnd_some.mp q2
  cases r with
  | true =>
    rw [if_pos rfl] at q3
    obtain ⟨z, s4, e4, q4⟩ := bnd_some.mp q3
    obtain ⟨r', s5, e5, q5⟩ := bnd_some.mp q4
    cases q5
    exact ⟨r', rfl⟩
  | false =>
    rw [if_neg Bool.false_ne_true] at q3
    cases q3
    exact ⟨_, rfl⟩
theorem t_chain (hu : X.A.units + 65 < cLine) (o o' : VI.Cop) (hm : noSet c = true) (ha : PE X a (rdE G X.K ea)) (hb : PE X b (rdE G X.K eb)) (hc : PE X c (rdE G X.K ec)) :
    PT X (.Compare a [cO o, cO o'] [b, c] pos) (rdT G X.K (tst (chnM o o' ea eb ec))) := by
  refine PT.imp (pt_chain (op_cop (G := G) hu o) (op_cop (G := G) hu o') ha hb hc (marks2_ok hm)) fun σ H Q ⟨w, st, ρ, a, s, e, d, st', eq, q⟩ => ?_
  obtain ⟨y, s1, e1, q1⟩ := bnd_some.mp eq
  obtain ⟨k, rfl⟩ := chain_bl e1
  obtain ⟨rfl, rfl⟩ := tru_bl q1
  exact chain_rd ⟨w, st, ρ, a, s, e, _, _, e1, fun w1 H1 v1 p1 r1 k1 => ⟨_, k1.bl_eq, q w1 H1 p1 r1⟩⟩
/-! #### one or another -/
def iteM (ec ea eb : VI.Env → VI.M VI.D) : VI.Env → VI.M VI.D := fun ρ => VI.bnd (ec ρ) fun x => VI.bnd (VI.truthM x) fun k => if k = true then ea ρ else eb ρ
theorem r_ite (hc : PT X c (rdT G X.K (tst ec))) (ha : PE X a (rdE G X.K ea)) (hb : PE X b (rdE G X.K eb)) : PE X (.IfExp c a b pos) (rdE G X.K (iteM ec ea eb)) := by
  refine PE.imp (pe_ifExp hc ha hb) fun σ H Q ⟨w, st, ρ, a, s, e, d, st', eq, q⟩ => ?_
  obtain ⟨x, s1, e1, q1⟩ := bnd_some.mp eq
  obtain ⟨k, s2, e2, q2⟩ := bnd_some.mp q1
  clear eq q1
  refine ⟨w, st, ρ, a, s, e, k, s2, bnd_some.mpr ⟨x, s1, e1, e2⟩, fun w1 H1 p1 r1 => ?_⟩
  cases k with
  | true =>
    rw [if_pos rfl] at q2 ⊢
    exact ⟨w1, s2, ρ, p1.at_, r1, e.mono p1.le, d, st', q2, fun w2 H2 v2 p2 => q w2 H2 v2 (p1.trans p2)⟩
  | false =>
    rw [if_neg Bool.false_ne_true] at q2 ⊢
    exact ⟨w1, s2, ρ, p1.at_, r1, e.mono p1.le, d, st', q2, fun w2 H2 v2 p2 => q w2 H2 v2 (p1.trans p2)⟩
/-! #### lists of arguments -/
theorem a_nil : PA X [] (rdA G X.K fun _ => VI.ret []) := PA.imp pa_nil fun σ H Q ⟨w, st, ρ, a, s, e, ds, st', eq, q⟩ => by
  cases eq
  exact q w H [] a.refl s .nil
theorem a_cons (hs : noStar a = true) (ha : PE X a (rdE G X.K ea)) (hl : PA X es (rdA G X.K el)) : PA X (a :: es) (rdA G X.K fun ρ => VI.bnd (ea ρ) fun x => VI.bnd (el ρ) fun xs => VI.ret (x :: xs)) := by
  refine PA.imp (pa_cons ha hl (star_cons hs)) fun σ H Q ⟨w, st, ρ, a, s, e, ds, st', eq, q⟩ => ?_
  obtain ⟨x, s1, e1, q1⟩ := bnd_some.mp eq
  obtain ⟨xs, s2, e2, q2⟩ := bnd_some.mp q1
  clear eq q1
  cases q2
  refine ⟨w, st, ρ, a, s, e, x, s1, e1, fun w1 H1 v1 p1 r1 k1 => ?_⟩
  exact ⟨w1, s1, ρ, p1.at_, r1, e.mono p1.le, xs, _, e2, fun w2 H2 vs p2 r2 k2 => q w2 H2 _ (p1.trans p2) r2 (.cons (k1.mono p2.le) k2)⟩
theorem r_tup {k} (h : PA X es (rdA G X.K el)) : PE X (.Tuple es k pos) (rdE G X.K fun ρ => VI.bnd (el ρ) fun ds => if ds.length ≤ VI.LINE then VI.ret (.tup ds) else VI.fail) := by
  refine PE.imp (pe_tup h) fun σ H Q ⟨w, st, ρ, a, s, e, d, st', eq, q⟩ => ?_
  obtain ⟨ds, s1, e1, q1⟩ := bnd_some.mp eq
  clear eq
  refine ⟨w, st, ρ, a, s, e, ds, s1, e1, fun w1 H1 vs p1 r1 k1 => ?_⟩
  split at q1
  · rename_i hl
    cases q1
    exact ⟨by rw [k1.length, ← LINE_eq]; exact hl, tup_new p1.at_ r1 k1 fun w2 H2 v2 p2 => q w2 H2 v2 (p1.trans p2)⟩
  · cases q1
theorem r_lst (own : Bool) (h : PA X es (rdA G X.K el)) : PE X (.List es pos) (rdE G X.K fun ρ => VI.bnd (el ρ) fun ds => if ds.length ≤ VI.LINE then VI.mk own ds else VI.fail) := by
  refine PE.imp (pe_lst h) fun σ H Q ⟨w, st, ρ, a, s, e, d, st', eq, q⟩ => ?_
  obtain ⟨ds, s1, e1, q1⟩ := bnd_some.mp eq
  clear eq
  refine ⟨w, st, ρ, a, s, e, ds, s1, e1, fun w1 H1 vs p1 r1 k1 => ?_⟩
  split at q1
  · rename_i hl
    exact ⟨by rw [k1.length, ← LINE_eq]; exact hl, lst_new p1.at_ r1 k1 q1 fun w2 H2 v2 p2 => q w2 H2 v2 (p1.trans p2)⟩
  · cases q1
theorem r_dic : PE X (.Dict [] [] pos) (rdE G X.K fun _ => fun s => some (.ref s.length, s ++ [.dic false []])) := by
  refine PE.imp pe_dnewK fun σ H Q ⟨w, st, ρ, a, s, e, d, st', eq, q⟩ => ?_
  cases eq
  exact dic_new a s q
/-! #### parts -/
theorem r_idx (hu : X.A.units + 1 < cLine) (hs : noSlice b = true) (ha : PE X a (rdE G X.K ea)) (hb : PE X b (rdE G X.K eb)) : PE X (.Subscript a b pos) (rdE G X.K fun ρ => VI.bnd (ea ρ) fun x => VI.bnd (eb ρ) fun y => VI.idxM x y) :=
  PE.imp (pe_ix (ix_idx (G := G) hu) ha hb (ix_plain hs)) fun _ _ _ h => bin_rd h
def partM (k : Bool) (e : VI.Env → VI.M VI.D) : VI.Env → VI.M (Option Int) := fun ρ => if k = true then VI.bnd (e ρ) VI.partI else VI.ret none
theorem o_none : PO X none (rdO G X.K (partM false ea)) := by
  refine PO.imp po_none fun σ H Q ⟨w, st, ρ, a, s, e, d, st', eq, q⟩ => ?_
  cases eq
  exact q w H a.refl s
theorem o_some (ha : PE X a (rdE G X.K ea)) : PO X (some a) (rdO G X.K (partM true ea)) := by
  refine PO.imp (po_some ha) fun σ H Q ⟨w, st, ρ, a, s, e, d, st', eq, q⟩ => ?_
  have eq : VI.bnd (ea ρ) VI.partI st = some (d, st') := eq
  obtain ⟨x, s1, e1, q1⟩ := bnd_some.mp eq
  refine ⟨w, st, ρ, a, s, e, x, s1, e1, fun w1 H1 v1 p1 r1 k1 => ?_⟩
  cases x with
  | int i =>
    cases q1
    exact ⟨i, k1.int_eq, q w1 H1 p1 r1⟩
  | _ => cases q1
theorem r_slc (own : Bool) {lo hi : Option Expr} {el eh : VI.Env → VI.M (Option Int)} {p2 : Pos} (ha : PE X a (rdE G X.K ea)) (hl : PO X lo (rdO G X.K el)) (hh : PO X hi (rdO G X.K eh)) :
    PE X (.Subscript a (.Slice lo hi none p2) pos) (rdE G X.K fun ρ => VI.bnd (ea ρ) fun x => VI.bnd (el ρ) fun y => VI.bnd (eh ρ) fun z => VI.slcM own x y z) := by
  refine PE.imp (pe_slice (sl_rd (G := G) own) ha hl hh) fun σ H Q ⟨w, st, ρ, a, s, e, d, st', eq, q⟩ => ?_
  obtain ⟨x, s1, e1, q1⟩ := bnd_some.mp eq
  obtain ⟨y, s2, e2, q2⟩ := bnd_some.mp q1
  obtain ⟨z, s3, e3, q3⟩ := bnd_some.mp q2
  clear eq q1 q2
  refine ⟨w, st, ρ, a, s, e, x, s1, e1, fun w1 H1 v1 p1 r1 k1 => ?_⟩
  refine ⟨w1, s1, ρ, p1.at_, r1, e.mono p1.le, y, s2, e2, fun w2 H2 p2 r2 => ?_⟩
  refine ⟨w2, s2, ρ, p2.at_, r2, (e.mono p1.le).mono p2.le, z, s3, e3, fun w3 H3 p3 r3 => ?_⟩
  exact ⟨w3, s3, x, p3.at_, r3, (k1.mono p2.le).mono p3.le, d, st', q3, fun w4 H4 v4 p4 => q w4 H4 v4 ((p1.trans p2).trans (p3.trans p4))⟩
theorem r_fld {F : VI.Flds} (fo : FldOk G X.K F) {f : Nat} {n : Str} (hn : n = G.nm f) (hp : plainO a = true) (ha : PE X a (rdE G X.K ea)) : PE X (.Attribute a n pos) (rdE G X.K fun ρ => VI.bnd (ea ρ) fun x => VI.fldM F x f) := by
  subst hn
  exact PE.imp (pe_fld ha (base_ok hp)) fun _ _ _ h => fld_rd fo h
/-! #### built-in functions -/
theorem call_rd {f : List VI.D → VI.M VI.D} {σ : L2.St} {H : Hp} {Q : VK} (h : rdE G X.K (fun ρ => VI.bnd (el ρ) f) σ H Q) : tCB (rdL G X.K f) (rdA G X.K el) σ H Q := by
  obtain ⟨w, st, ρ, a, s, e, d, st', eq, q⟩ := h
  obtain ⟨ds, s1, e1, q1⟩ := bnd_some.mp eq
  refine ⟨w, st, ρ, a, s, e, ds, s1, e1, fun w1 H1 vs p1 r1 k1 => ?_⟩
  exact ⟨w1, s1, ds, p1.at_, r1, k1, d, st', q1, fun w2 H2 v2 p2 => q w2 H2 v2 (p1.trans p2)⟩
def biS : VI.Bi → Str
  | .len => "len"
  | .int => "int"
  | .tuple => "tuple"
  | .list => "list"
  | .min => "min"
  | .max => "max"
  | .sum => "sum"
  | .sorted => "sorted"
  | .all => "all"
  | .any => "any"
  | .abs => "abs"
  | .ord => "ord"
theorem biS_boot (b : VI.Bi) : bootBuiltins (biS b) = some (biV b) := by
  cases b <;> first | rfl | decide +kernel
theorem biS_name (b : VI.Bi) : biS b ≠ "__name__" ∧ (biS b == ("__debug__" : Str)) = false := by
  cases b <;> decide +kernel
theorem r_bi (hc : X.calm = true) (b : VI.Bi) (own : Bool) {x : Str} {p : Pos} (hx : x = biS b) (hg : Gl X x) (hm : X.mg x = none) (hs : (a :: es).all noStar = true) (hl : PA X (a :: es) (rdA G X.K el)) :
    PE X (.Call (.Name x p) (a :: es) [] pos) (rdE G X.K fun ρ => VI.bnd (el ρ) fun vs => VI.biM b own vs) := by
  subst hx
  rw [List.all_cons, Bool.and_eq_true] at hs
  have hcr := cr_bi (G := G) hc b own
  have hv := biS_boot b
  have h2 := biS_name b
  cases b
  case int => exact PE.imp (pe_callTy (T := "int") hcr hg hm hv hl h2.1 h2.2 (star_cons hs.1) (back_any hs.2)) fun _ _ _ h => call_rd h
  case tuple => exact PE.imp (pe_callTy (T := "tuple") hcr hg hm hv hl h2.1 h2.2 (star_cons hs.1) (back_any hs.2)) fun _ _ _ h => call_rd h
  case list => exact PE.imp (pe_callTy (T := "list") hcr hg hm hv hl h2.1 h2.2 (star_cons hs.1) (back_any hs.2)) fun _ _ _ h => call_rd h
  all_goals exact PE.imp (pe_callB hcr hg hm hv hl h2.1 h2.2 (star_cons hs.1) (back_any hs.2)) fun _ _ _ h => call_rd h
end
end VIS
end

section
set_option Elab.async false
set_option linter.all false
set_option maxRecDepth 100000
set_option maxHeartbeats 1000000
namespace VIS
open PySem PySem.Spec PyProof.Rows L2
/-! ### methods of lists, dicts -/
def bmS : VI.Bm → Str
  | .append => "append"
  | .extend => "extend"
  | .pop => "pop"
  | .get => "get"
def bmI : VI.Kd → VI.Bm → String
  | .lst, .append => "list.append"
  | .lst, .extend => "list.extend"
  | .lst, .pop => "list.pop"
  | .lst, .get => ""
  | .dic, .pop => "dict.pop"
  | .dic, .get => "dict.get"
  | .dic, _ => ""
/-- the methods there are -/
def bmOk : VI.Kd → VI.Bm → Bool
  | .lst, .append => true
  | .lst, .extend => true
  | .lst, .pop => true
  | .dic, .pop => true
  | .dic, .get => true
  | _, _ => false
def kdT : VI.Kd → String
  | .lst => "list"
  | .dic => "dict"
theorem bm_slot {k : VI.Kd} {m : VI.Bm} (h : bmOk k m = true) : PlainAttrs (kdT k) ∧ Slot (kdT k) (bmS m) (bmI k m) ∧ typeOf (.builtin (bmI k m)) = pure (.type "method_descriptor") := by
  cases k <;> cases m <;> first
    | (simp [bmOk] at h; done)
    | exact ⟨PySem.F.plainAttrs_list, PySem.F.slot_list_append, PySem.F.type_list_append⟩
    | exact ⟨PySem.F.plainAttrs_list, PySem.F.slot_list_extend, PySem.F.type_list_extend⟩
    | exact ⟨PySem.F.plainAttrs_list, PySem.F.slot_list_pop, PySem.F.type_list_pop⟩
    | exact ⟨PySem.F.plainAttrs_dict, PySem.F.slot_dict_pop, PySem.F.type_dict_pop⟩
    | exact ⟨PySem.F.plainAttrs_dict, PySem.F.slot_dict_get, PySem.F.type_dict_get⟩
section
variable {G : Nms} {X : Cx} {pos apos : Pos} {a b c : Expr} {ea eb ec : VI.Env → VI.M VI.D} {es : List Expr} {el : VI.Env → VI.M (List VI.D)}
theorem kind_ok {w : Wd} {H : Hp} {st st' : VI.St} {d : VI.D} {k : VI.Kd} {x : V} (at_ : At w H) (sr : StR G X.K w st) (r : VR X.K w d x) (e : VI.kindM d st = some (k, st')) : st' = st ∧ ∃ p, x = .ref p ∧ ∀ {pins : List (Addr × Obj)} {σ : L2.St} {s : Shared}, Inv X pins σ H s →
    s.TypeIs (.ref p) (kdT k) ∧ ∀ b, Value.ref p = .ref b → ∃ ob, s.heap.get? b = some ob ∧ ob.dict = none := by
  unfold VI.kindM at e
  split at e
  · rename_i n
    obtain ⟨_, rfl⟩ := r.ref_of
    split at e
    · rename_i l c
      cases e
      obtain ⟨vs, h1, h2⟩ := sr.lst c
      refine ⟨rfl, _, rfl, fun {pins σ s} I => ?_⟩
      exact tyV_is (x := V.ref (w.μ n)) (v := .ref (w.μ n)) I rfl (T := "list") (Or.inl ⟨rfl, vs, .of (at_.sub _ _ h1)⟩)
    · rename_i lk kvs c
      cases e
      obtain ⟨vs, h1, _, h2⟩ := sr.dic at_ c
      refine ⟨rfl, _, rfl, fun {pins σ s} I => ?_⟩
      obtain ⟨z, lo, us, rel, dd⟩ := dk_rd I.hok h1
      refine ⟨dd.typeIs, fun b q => ?_⟩
      cases q
      obtain ⟨ob, _, _, h1, h2, _⟩ := dd
      exact ⟨ob, h1, h2.2.1⟩
    · cases e
  · cases e
theorem bm_run (hu : X.A.units + 1 < cLine) {w : Wd} {H : Hp} {st st' : VI.St} {d : VI.D} {k : VI.Kd} {m : VI.Bm} {o : VI.D} {l : List VI.D} {x : V} {xs : List V} {v : Value} {us : List Value} {pins : List (Addr × Obj)} {σ : L2.St} {s : Shared} {Q : VK}
    (I : Inv X pins σ H s) (at_ : At w H) (sr : StR G X.K w st) (r : VR X.K w o x) (rs : VRs X.K w l xs) (rx : RelV x v) (rv : Vals xs us) (e : VI.bmM k m o l st = some (d, st')) (q : Wn G X.K w H st' d Q) :
    bmOk k m = true ∧ wpAny (model X.prog X.w) X.A (call (.builtin (bmI k m)) (v :: us)) (EP X pins σ Q) X.xe s := by
  unfold VI.bmM at e
  split at e
  · rename_i n
    obtain ⟨hn, rfl⟩ := r.ref_of
    have same : ∀ {c' : VI.Cell} {oo : HO} {r' : VI.D} {y : V}, (∃ c, st[n]? = some c) → (∀ o' u, H (w.μ n) ≠ some (.frz o' u)) → st' = st.set n c' → d = r' → (∀ w', Le w w' → w'.H (w.μ n) = some oo → CR G X.K w' c' (w.μ n)) → (∀ w', Le w w' → VR X.K w' r' y) → Q y (upd H (w.μ n) oo) := fun {c' oo r' y} hc nf es ed hcr hy => by
      obtain ⟨c, hc⟩ := hc
      subst es ed
      obtain ⟨w', p1, s1, e1, e2⟩ := step_set (c' := c') (o := oo) at_ sr hc nf fun w' le hw _ _ => hcr w' le hw
      exact q w' _ _ p1 s1 (hy w' p1.le)
    split at e
    · -- lists
      rename_i x' cx
      obtain ⟨vs, h1, h2⟩ := sr.lst cx
      have h1' := at_.sub _ _ h1
      unfold VI.bmL at e
      split at e
      · rename_i dd
        split at e
        · rename_i hz
          cases e
          obtain ⟨y, rfl, k1⟩ := rs.one_of
          refine ⟨rfl, mt_append pins s σ H _ _ v us Q I rx rv ⟨_, vs, y, rfl, rfl, h1', by rw [h2.length, ← LINE_eq]; exact hz, ?_⟩⟩
          exact same ⟨_, cx⟩ (fun _ _ z => by rw [h1'] at z; cases z) rfl rfl (fun w' le hw => ⟨_, hw, (h2.mono le).append (.one (k1.mono le))⟩) fun _ _ => .nonI
        · cases e
      · rename_i dd
        split at e
        · rename_i y' ey
          split at e
          · rename_i hz
            cases e
            obtain ⟨y, rfl, k1⟩ := rs.one_of
            obtain ⟨p, vs2, rfl, hp, rs2⟩ := lstOf_ok at_ sr k1 ey
            refine ⟨rfl, mt_extend pins s σ H _ _ v us Q I rx rv ⟨_, p, vs, vs2, rfl, rfl, h1', hp, by rw [h2.length, rs2.length, ← LINE_eq]; exact hz, ?_⟩⟩
            exact same ⟨_, cx⟩ (fun _ _ z => by rw [h1'] at z; cases z) rfl rfl (fun w' le hw => ⟨_, hw, (h2.mono le).append (rs2.mono le)⟩) fun _ _ => .nonI
          · cases e
        · cases e
      · split at e
        · rename_i d' ed
          cases e
          simp only [VRs] at rs
          subst rs
          obtain ⟨y, e1, e2⟩ := h2.get ed
          refine ⟨rfl, mt_pop pins s σ H _ _ v us Q I rx rv ⟨_, vs, y, rfl, rfl, h1', by rw [h2.length]; exact e1, ?_⟩⟩
          exact same ⟨_, cx⟩ (fun _ _ z => by rw [h1'] at z; cases z) rfl rfl (fun w' le hw => ⟨_, hw, (h2.mono le).dropLast⟩) fun _ le => e2.mono le
        · cases e
      · cases e
    · -- dicts
      rename_i lk kvs cx
      obtain ⟨vs, h1, h1f, h2⟩ := sr.dic at_ cx
      cases rx
      unfold VI.bmD at e
      split at e
      · rename_i dk
        obtain ⟨ky, ek, e2⟩ := Option.bind_eq_some_iff.mp e
        obtain ⟨d', e3, e4⟩ := Option.map_eq_some_iff.mp e2
        cases e4
        obtain ⟨y, rfl, k1⟩ := rs.one_of
        obtain ⟨u, rfl, ru⟩ := rv.one
        have ky1 := ky_ok k1 ek
        subst ky1
        obtain ⟨z, hz1, hz2⟩ := h2.some e3
        refine ⟨rfl, d_pop I (at_.sub _ _ (h1f rfl)) ru hz1 (.inl rfl) fun w' s' I' rw' => ⟨z, _, I', rw', ?_⟩⟩
        exact same ⟨_, cx⟩ (fun _ _ z => by rw [at_.sub _ _ (h1f rfl)] at z; cases z) rfl rfl (fun w' le hw => ⟨_, hw, (h2.mono le).drop ky⟩) fun _ le => hz2.mono le
      · rename_i dk dd
        obtain ⟨ky, ek, e2⟩ := Option.map_eq_some_iff.mp e
        obtain ⟨y, y2, rfl, k1, k2⟩ := rs.two_of
        obtain ⟨u, u2, rfl, ru, ru2⟩ := rv.two
        have ky1 := ky_ok k1 ek
        subst ky1
        cases c : VI.valK kvs ky with
        | some d' =>
          rw [c] at e2
          cases e2
          obtain ⟨z, hz1, hz2⟩ := h2.some c
          refine ⟨rfl, d_pop I (at_.sub _ _ (h1f rfl)) ru hz1 (.inr ⟨u2, rfl⟩) fun w' s' I' rw' => ⟨z, _, I', rw', ?_⟩⟩
          exact same ⟨_, cx⟩ (fun _ _ z => by rw [at_.sub _ _ (h1f rfl)] at z; cases z) rfl rfl (fun w' le hw => ⟨_, hw, (h2.mono le).drop ky⟩) fun _ le => hz2.mono le
        | none =>
          rw [c] at e2
          cases e2
          exact ⟨rfl, d_popD I (at_.sub _ _ (h1f rfl)) ru (h2.none c) fun s' I' => ⟨y2, H, I', ru2, here q at_ sr k2⟩⟩
      · rename_i dk
        obtain ⟨ky, ek, e2⟩ := Option.map_eq_some_iff.mp e
        cases e2
        obtain ⟨y, rfl, k1⟩ := rs.one_of
        obtain ⟨u, rfl, ru⟩ := rv.one
        have ky1 := ky_ok k1 ek
        subst ky1
        refine ⟨rfl, d_get1 hu I (.inl ⟨vs, kyK ky, h1, rfl, rfl⟩) ru fun w' s' I' rw' => ⟨_, H, I', rw', ?_⟩⟩
        refine here q at_ sr ?_
        cases c : VI.valK kvs ky with
        | some d' =>
          obtain ⟨z, hz1, hz2⟩ := h2.some c
          rw [hz1]
          exact hz2
        | none =>
          rw [h2.none c]
          exact .nonI
      · rename_i dk dd
        obtain ⟨ky, ek, e2⟩ := Option.map_eq_some_iff.mp e
        cases e2
        obtain ⟨y, y2, rfl, k1, k2⟩ := rs.two_of
        obtain ⟨u, u2, rfl, ru, ru2⟩ := rv.two
        have ky1 := ky_ok k1 ek
        subst ky1
        refine ⟨rfl, d_get2 hu I (.inl ⟨vs, kyK ky, h1, rfl, rfl⟩) ru ru2 fun w' s' I' rw' => ⟨_, H, I', rw', ?_⟩⟩
        refine here q at_ sr ?_
        cases c : VI.valK kvs ky with
        | some d' =>
          obtain ⟨z, hz1, hz2⟩ := h2.some c
          rw [hz1]
          exact hz2
        | none =>
          rw [h2.none c]
          exact k2
      · cases e
    · cases e
  · cases e
def bmE (m : VI.Bm) (ea : VI.Env → VI.M VI.D) (el : VI.Env → VI.M (List VI.D)) : VI.Env → VI.M VI.D := fun ρ => VI.bnd (ea ρ) fun x => VI.bnd (VI.kindM x) fun k => VI.bnd (el ρ) fun vs => VI.bmM k m x vs
theorem r_bm0 (hu : X.A.units + 1 < cLine) (m : VI.Bm) {n : Str} (hn : n = bmS m) (hp : plainO a = true) (hline : (apos.endLine == pos.line) = true) (ha : PE X a (rdE G X.K ea)) :
    PE X (.Call (.Attribute a n apos) [] [] pos) (rdE G X.K (bmE m ea fun _ => VI.ret [])) := by
  subst hn
  refine ⟨fun pins s σ H Q I ⟨w, st, ρ, at_, sr, e, d, st', eq, q⟩ => ?_⟩
  obtain ⟨x, s1, e1, q1⟩ := bnd_some.mp eq
  obtain ⟨k, s2, e2, q2⟩ := bnd_some.mp q1
  obtain ⟨ds, s3, e3, q3⟩ := bnd_some.mp q2
  clear eq q1 q2
  refine wpAny_Call_method0_late (base_ok hp) hline (thn (ha.run pins s σ H (fun v1 H1 => ∃ w1, Step w w1 H H1 ∧ StR G X.K w1 s1 ∧ VR X.K w1 x v1) I ⟨w, st, ρ, at_, sr, e, x, s1, e1, fun w1 H1 v1 p1 r1 k1 => ⟨w1, p1, r1, k1⟩⟩) fun v t1 ⟨y, H1, I1, rv1, w1, p1, r1, k1⟩ => ?_)
  obtain ⟨rfl, p, rfl, ty⟩ := kind_ok p1.at_ r1 k1 e2
  cases rv1
  have run : ∀ {xs : List V} {us : List Value} {w2 : Wd} {H2 : Hp} {t2 : Shared}, Inv X pins σ H2 t2 → Vals xs us → Step w1 w2 H1 H2 → StR G X.K w2 s3 → VRs X.K w2 ds xs →
      bmOk k m = true ∧ wpAny (model X.prog X.w) X.A (call (.builtin (bmI k m)) (.ref p :: us)) (EP X pins σ Q) X.xe t2 := fun {xs us w2 H2 t2} I2 rv2 p2 r2 k2 =>
    bm_run hu I2 p2.at_ r2 (k1.mono p2.le) k2 rfl rv2 q3 fun w3 H3 v3 p3 => q w3 H3 v3 ((p1.trans p2).trans p3)
  have hk : bmOk k m = true := by
    unfold VI.bmM at q3
    split at q3
    · split at q3
      · unfold VI.bmL at q3
        split at q3 <;> first | rfl | cases q3
      · unfold VI.bmD at q3
        split at q3 <;> first | rfl | cases q3
      · cases q3
    · cases q3
  obtain ⟨pa, slot, hty⟩ := bm_slot hk
  obtain ⟨h1, h2⟩ := ty I1
  refine ⟨kdT k, bmI k m, pa, slot, hty, h1, h2, ?_⟩
  cases e3
  exact Calls.callWith_builtin rfl (PySem.evalArgs_none (run I1 .nil p1.at_.refl r1 .nil).2)
theorem r_bm (hu : X.A.units + 1 < cLine) (m : VI.Bm) {n : Str} (hn : n = bmS m) (hp : plainO a = true) (hs : (b :: es).all noStar = true) (hl : (b :: es).length < 30) (hline : (apos.endLine == pos.line) = true) (ha : PE X a (rdE G X.K ea)) (hA : PA X (b :: es) (rdA G X.K el)) :
    PE X (.Call (.Attribute a n apos) (b :: es) [] pos) (rdE G X.K (bmE m ea el)) := by
  subst hn
  refine ⟨fun pins s σ H Q I ⟨w, st, ρ, at_, sr, e, d, st', eq, q⟩ => ?_⟩
  obtain ⟨x, s1, e1, q1⟩ := bnd_some.mp eq
  obtain ⟨k, s2, e2, q2⟩ := bnd_some.mp q1
  obtain ⟨ds, s3, e3, q3⟩ := bnd_some.mp q2
  clear eq q1 q2
  refine wpAny_Call_method_late (base_ok hp) (few_ok hs hl) hline rfl (thn (ha.run pins s σ H (fun v1 H1 => ∃ w1, Step w w1 H H1 ∧ StR G X.K w1 s1 ∧ VR X.K w1 x v1) I ⟨w, st, ρ, at_, sr, e, x, s1, e1, fun w1 H1 v1 p1 r1 k1 => ⟨w1, p1, r1, k1⟩⟩) fun v t1 ⟨y, H1, I1, rv1, w1, p1, r1, k1⟩ => ?_)
  obtain ⟨rfl, p, rfl, ty⟩ := kind_ok p1.at_ r1 k1 e2
  cases rv1
  have run : ∀ {xs : List V} {us : List Value} {w2 : Wd} {H2 : Hp} {t2 : Shared}, Inv X pins σ H2 t2 → Vals xs us → Step w1 w2 H1 H2 → StR G X.K w2 s3 → VRs X.K w2 ds xs →
      bmOk k m = true ∧ wpAny (model X.prog X.w) X.A (call (.builtin (bmI k m)) (.ref p :: us)) (EP X pins σ Q) X.xe t2 := fun {xs us w2 H2 t2} I2 rv2 p2 r2 k2 =>
    bm_run hu I2 p2.at_ r2 (k1.mono p2.le) k2 rfl rv2 q3 fun w3 H3 v3 p3 => q w3 H3 v3 ((p1.trans p2).trans p3)
  have hk : bmOk k m = true := by
    unfold VI.bmM at q3
    split at q3
    · split at q3
      · unfold VI.bmL at q3
        split at q3 <;> first | rfl | cases q3
      · unfold VI.bmD at q3
        split at q3 <;> first | rfl | cases q3
      · cases q3
    · cases q3
  obtain ⟨pa, slot, hty⟩ := bm_slot hk
  obtain ⟨h1, h2⟩ := ty I1
  refine ⟨kdT k, bmI k m, pa, slot, hty, h1, h2, ?_⟩
  have hR := hA.run pos pins t1 σ H1 (fun vs H2 => ∃ w2, Step w1 w2 H1 H2 ∧ StR G X.K w2 s3 ∧ VRs X.K w2 ds vs) I1 ⟨w1, s2, ρ, p1.at_, r1, e.mono p1.le, ds, s3, e3, fun w2 H2 vs p2 r2 k2 => ⟨w2, p2, r2, k2⟩⟩
  rw [star_cons (by rw [List.all_cons, Bool.and_eq_true] at hs; exact hs.1)] at hR ⊢
  refine Calls.callWith_builtin (by show (false || (backTo pos (starEach es X.env)).any (·.1)) = false; rw [back_any (by rw [List.all_cons, Bool.and_eq_true] at hs; exact hs.2)]; rfl) (Calls.evalArgs_plain ?_)
  exact thn hR fun us t2 ⟨vs, H2, I2, rv2, w2, p2, r2, k2⟩ => (run I2 rv2 p2 r2 k2).2
end
end VIS
end

section
set_option Elab.async false
set_option linter.all false
set_option maxRecDepth 100000
set_option maxHeartbeats 1000000
namespace VIS
open PySem PySem.Spec PyProof.Rows L2
/-! ### isinstance -/
def tyN : VI.Ty → String
  | .int => "int"
  | .bool => "bool"
  | .str => "str"
  | .tuple => "tuple"
  | .list => "list"
  | .dict => "dict"
def tyS : VI.Ty → Str
  | .int => "int"
  | .bool => "bool"
  | .str => "str"
  | .tuple => "tuple"
  | .list => "list"
  | .dict => "dict"
theorem tyS_boot (t : VI.Ty) : bootBuiltins (tyS t) = some (.type (tyN t)) := by
  cases t <;> first | rfl | decide +kernel
theorem tyS_name (t : VI.Ty) : tyS t ≠ "__name__" ∧ (tyS t == ("__debug__" : Str)) = false := by
  cases t <;> decide +kernel
theorem kit_non (t : VI.Ty) : kitB "NoneType" (tyN t) = some false := by cases t <;> decide +kernel
theorem kit_bl (t : VI.Ty) : kitB "bool" (tyN t) = some (match t with
    | .int => true
    | .bool => true
    | _ => false) := by cases t <;> decide +kernel
theorem kit_int (t : VI.Ty) : kitB "int" (tyN t) = some (decide (t = .int)) := by cases t <;> decide +kernel
theorem kit_str (t : VI.Ty) : kitB "str" (tyN t) = some (decide (t = .str)) := by cases t <;> decide +kernel
theorem kit_tup (t : VI.Ty) : kitB "tuple" (tyN t) = some (decide (t = .tuple)) := by cases t <;> decide +kernel
theorem kit_lst (t : VI.Ty) : kitB "list" (tyN t) = some (decide (t = .list)) := by cases t <;> decide +kernel
theorem kit_dic (t : VI.Ty) : kitB "dict" (tyN t) = some (decide (t = .dict)) := by cases t <;> decide +kernel
section
variable {G : Nms} {K : PySem.W.Frag} {w : Wd} {H : Hp} {st st' : VI.St}
theorem isTy_ok (a : At w H) (sr : StR G K w st) {d : VI.D} {v : V} {t : VI.Ty} {b : Bool} (r : VR K w d v) (e : VI.isTy st d t = some b) : ∃ T, TyX K H v (.type T) ∧ kitB T (tyN t) = some b := by
  unfold VI.isTy at e
  split at e
  · cases e; rw [r.non_eq]; exact ⟨_, .base .non, kit_non t⟩
  · cases e; rw [r.bl_eq]; exact ⟨_, .base (.bl _), kit_bl t⟩
  · cases e; rw [r.int_eq]; exact ⟨_, .base (.int _), kit_int t⟩
  · cases e; rw [r.str_eq]; exact ⟨_, .base (.str _), kit_str t⟩
  · cases e
    obtain ⟨p, vs, rfl, hp, rs⟩ := r.tup_of
    rcases hp.sq a with (h | ⟨o, h⟩) | ⟨o, its, n, h1, h2, _⟩
    · exact ⟨_, .base (.tup h), kit_tup t⟩
    · exact ⟨_, .fTuple h, kit_tup t⟩
    · exact ⟨_, .kTuple h1 h2, kit_tup t⟩
  · cases e
    obtain ⟨p, vs, rfl, hp, rs⟩ := r.lst_of
    exact ⟨_, .base (.lst (a.sub _ _ hp.1)), kit_lst t⟩
  · cases e
  · obtain ⟨_, rfl⟩ := r.ref_of
    split at e
    · rename_i l c
      cases e
      obtain ⟨vs, h1, h2⟩ := sr.lst c
      exact ⟨_, .base (.lst (a.sub _ _ h1)), kit_lst t⟩
    · rename_i lk kvs c
      cases e
      obtain ⟨vs, h1, _, h2⟩ := sr.dic a c
      rcases h1 with h | ⟨o, h⟩
      · exact ⟨_, .base (.dK h), kit_dic t⟩
      · exact ⟨_, .fDict h, kit_dic t⟩
    · cases e
end
section
variable {G : Nms} {X : Cx} {pos apos : Pos} {a b c : Expr} {ea eb ec : VI.Env → VI.M VI.D} {es : List Expr} {el : VI.Env → VI.M (List VI.D)}
theorem r_isi (t : VI.Ty) {x y : Str} {p p2 : Pos} (hx : x = "isinstance") (hg : Gl X x) (hm : X.mg x = none) (hy : y = tyS t) (hg2 : Gl X y) (hm2 : X.mg y = none) (hs : noStar a = true) (ha : PE X a (rdE G X.K ea)) :
    PE X (.Call (.Name x p) [a, .Name y p2] [] pos) (rdE G X.K fun ρ => VI.bnd (ea ρ) fun x => fun s => (VI.isTy s x t).map fun b => (.bl b, s)) := by
  subst hx hy
  have h2 : PE X (.Name (tyS t) p2) (tC (.ty (tyN t))) := pe_bltn hg2 hm2 (tyS_boot t) rfl (tyS_name t).1 (tyS_name t).2
  have hA := pa_cons ha (pa_cons h2 pa_nil (star_cons rfl)) (star_cons hs)
  refine PE.imp (pe_callB call_isi hg hm (by first | rfl | decide +kernel) hA (by decide +kernel) (by decide +kernel) (star_cons hs) (back_any rfl)) fun σ H Q ⟨w, st, ρ, at_, sr, e, d, st', eq, q⟩ => ?_
  obtain ⟨x, s1, e1, q1⟩ := bnd_some.mp eq
  clear eq
  refine ⟨w, st, ρ, at_, sr, e, x, s1, e1, fun w1 H1 v1 p1 r1 k1 => ?_⟩
  obtain ⟨r, e2, e3⟩ := Option.map_eq_some_iff.mp q1
  cases e3
  obtain ⟨T, ty, hk⟩ := isTy_ok p1.at_ r1 k1 e2
  exact ⟨v1, .ty (tyN t), .type T, .type (tyN t), r, rfl, .ty _, ty, kit_ty hk, q w1 H1 _ p1 r1 .blI⟩
/-! ### calls -/
/-- what a function promises -/
def spF (G : Nms) (K : PySem.W.Frag) (m : List VI.D → VI.M VI.D) : Sp := fun vs H Q _ => ∃ w st ds, At w H ∧ StR G K w st ∧ VRs K w ds vs ∧ Out G K w H (m ds st) Q
/-- a function of the text, by its number -/
structure FnF (G : Nms) (P : Program) (wd : World) (K : PySem.W.Frag) (mg : Str → Option Value) (base : Heap) (k : Nat) (f : Addr) (m : List VI.D → VI.M VI.D) : Prop where
  ex : ∃ fd ps, FnOk P wd K mg base CX0 k f fd ps (spF G K m) ∧ Binds K fd ps []
  kp : PySem.W.keepIn K (.ref f) = true
variable {k : Nat} {f : Addr} {m : List VI.D → VI.M VI.D}
theorem fcall_rd {σ : L2.St} {H : Hp} {Q : VK} (h : rdE G X.K (fun ρ => VI.bnd (el ρ) m) σ H Q) : tCall (spF G X.K m) [] E0 (rdA G X.K el) σ H Q := by
  obtain ⟨w, st, ρ, at_, sr, e, d, st', eq, q⟩ := h
  obtain ⟨ds, s1, e1, q1⟩ := bnd_some.mp eq
  refine ⟨w, st, ρ, at_, sr, e, ds, s1, e1, fun w1 H1 vs p1 r1 k1 => ?_⟩
  show spF G X.K m (vs ++ []) H1 Q E0
  rw [List.append_nil]
  exact ⟨w1, s1, ds, p1.at_, r1, k1, d, st', q1, fun w2 H2 v2 p2 => q w2 H2 v2 (p1.trans p2)⟩
theorem r_call (F : FnF G X.prog X.w X.K X.mg X.base k f m) (hr : Room k X.A) {x : Str} {p : Pos} (hg : Gl X x) (hm : X.mg x = some (.ref f)) (hd : (x == ("__debug__" : Str)) = false) (hs : (a :: es).all noStar = true) (hl : PA X (a :: es) (rdA G X.K el)) :
    PE X (.Call (.Name x p) (a :: es) [] pos) (rdE G X.K fun ρ => VI.bnd (el ρ) m) := by
  obtain ⟨⟨fd, ps, F1, F2⟩, F3⟩ := F
  rw [List.all_cons, Bool.and_eq_true] at hs
  exact PE.imp (pe_call F1 hr hg hm F3 F2 .nil pass0 hl hd (star_cons hs.1) (back_any hs.2)) fun _ _ _ h => fcall_rd h
theorem fcall0_rd {σ : L2.St} {H : Hp} {Q : VK} (h : rdE G X.K (fun ρ => VI.bnd (VI.ret []) m) σ H Q) : tCall (spF G X.K m) [] E0 tNil σ H Q := by
  obtain ⟨w, st, ρ, at_, sr, e, d, st', eq, q⟩ := h
  obtain ⟨ds, s1, e1, q1⟩ := bnd_some.mp eq
  cases e1
  exact ⟨w, st, [], at_, sr, .nil, d, st', q1, q⟩
theorem r_call0 (F : FnF G X.prog X.w X.K X.mg X.base k f m) (hr : Room k X.A) {x : Str} {p : Pos} (hg : Gl X x) (hm : X.mg x = some (.ref f)) (hd : (x == ("__debug__" : Str)) = false) :
    PE X (.Call (.Name x p) [] [] pos) (rdE G X.K fun ρ => VI.bnd (VI.ret []) m) := by
  obtain ⟨⟨fd, ps, F1, F2⟩, F3⟩ := F
  exact PE.imp (pe_call0 F1 hr hg hm F3 F2 .nil pass0 hd) fun _ _ _ h => fcall0_rd h
/-! ### methods of own classes -/
def methM (P : VI.Prog) (cl : Nat → List VI.D → VI.M VI.D) (mn : Nat) (ea : VI.Env → VI.M VI.D) (el : VI.Env → VI.M (List VI.D)) : VI.Env → VI.M VI.D := fun ρ => VI.bnd (ea ρ) fun x => match x with
    | .ref n => fun s => match s[n]? with
      | some (.ins c fs) => (match P.meth c mn, VI.valF fs mn with
        | some f, none => VI.bnd (el ρ) (fun vs => cl f (.ref n :: vs)) s
        | _, _ => none)
      | _ => none
    | _ => VI.fail
/-- a class's method -/
structure MtF (G : Nms) (P : Program) (wd : World) (K : PySem.W.Frag) (mg : Str → Option Value) (base : Heap) (k : Nat) (C : Addr) (n : Str) (m : List VI.D → VI.M VI.D) : Prop where
  cls : Cls K C
  ex : ∃ f, Meth K C n f ∧ FnF G P wd K mg base k f m
theorem meth_of {pl : Sem Bool} {m : Str} {args : List Expr} {pins : List (Addr × Obj)} {s : Shared} {σ : L2.St} {H : Hp} {Q : Value → Shared → Prop} {te : TE} (he : PE X a te) (I : Inv X pins σ H s)
    (h : te σ H fun x H1 => ∃ a C dx fs g, x = .ref a ∧ H1 a = some (.ins C dx fs) ∧ Cls X.K C ∧ Meth X.K C m g ∧ fs.lookup m = none ∧
      ∀ s1, Inv X pins σ H1 s1 → wpAny (model X.prog X.w) X.A (callWith pos (.ref g) [.ref a] (backTo pos (starEach args X.env)) (backToKw pos (keywordEach [] X.env))) Q X.xe s1)
    (ht : eval (.Call (.Attribute a m apos) args [] pos) X.env = (do
      let ov ← eval a X.env
      standAt apos.atName
      let (f, first) ← holding [ov] (getMethod ov m pl)
      callWith pos f first (backTo pos (starEach args X.env)) (backToKw pos (keywordEach [] X.env)))) :
    wpAny (model X.prog X.w) X.A (eval (.Call (.Attribute a m apos) args [] pos) X.env) Q X.xe s := methcall_of he I h ht
theorem r_meth (P : VI.Prog) (cl : Nat → List VI.D → VI.M VI.D) (mn : Nat) (inj : ∀ f g, G.nm f = G.nm g → f = g) (hM : ∀ c f, P.meth c mn = some f → MtF G X.prog X.w X.K X.mg X.base k (G.cls c) (G.nm mn) (cl f)) (hr : Room k X.A) {n : Str} (hn : n = G.nm mn)
    (hp : plainO a = true) (hs : es.all noStar = true) (hl : es.length < 30) (hline : (apos.endLine == pos.line) = true) (ha : PE X a (rdE G X.K ea)) (hA : PA X es (rdA G X.K el)) (h0 : es = [] → ∀ ρ, el ρ = VI.ret []) :
    PE X (.Call (.Attribute a n apos) es [] pos) (rdE G X.K (methM P cl mn ea el)) := by
  subst hn
  refine ⟨fun pins s σ H Q I ⟨w, st, ρ, at_, sr, e, d, st', eq, q⟩ => ?_⟩
  obtain ⟨x, s1, e1, q1⟩ := bnd_some.mp eq
  clear eq
  refine methcall_of (te := rdE G X.K ea) ha I ⟨w, st, ρ, at_, sr, e, x, s1, e1, fun w1 H1 v1 p1 r1 k1 => ?_⟩ (meth_tree hp hs hl hline)
  cases x with
  | ref n =>
    obtain ⟨_, rfl⟩ := k1.ref_of
    simp only at q1
    cases c : s1[n]? with
    | none => rw [c] at q1; cases q1
    | some cc =>
      rw [c] at q1
      cases cc with
      | ins cn fs =>
        simp only at q1
        split at q1
        · rename_i f hf hv
          obtain ⟨ds, s2, e2, q2⟩ := bnd_some.mp q1
          obtain ⟨dx, vs, h1, h2⟩ := r1.ins p1.at_ c
          have h3 := h2.look inj (f := mn)
          rw [hv] at h3
          obtain ⟨C1, g, M1, F⟩ := hM _ _ hf
          obtain ⟨⟨fd, ps, F1, F2⟩, F3⟩ := F
          refine ⟨_, _, dx, vs, g, rfl, h1, C1, M1, h3, fun t1 I1 => ?_⟩
          have fin : ∀ {us : List Value} {vs : List V} {w2 : Wd} {H2 : Hp} {t2 : Shared}, Inv X pins σ H2 t2 → Vals vs us → Step w1 w2 H1 H2 → StR G X.K w2 s2 → VRs X.K w2 ds vs → wpAny (model X.prog X.w) X.A (call (.ref g) (.ref (w1.μ n) :: us)) (EP X pins σ Q) X.xe t2 := fun {us vs w2 H2 t2} I2 rv p2 r2 k2 =>
            run_fn (us := .ref (w1.μ n) :: us) (vs := .ref (w1.μ n) :: vs) (dvs := []) F1 hr F2 .nil pass0 I2 (.cons rfl rv)
              ⟨w2, s2, .ref n :: ds, p2.at_, r2, by rw [List.append_nil]; exact .cons (k1.mono p2.le) k2, d, st', q2, fun w3 H3 v3 p3 => q w3 H3 v3 ((p1.trans p2).trans p3)⟩
          cases es with
          | nil =>
            rw [h0 rfl ρ] at e2
            cases e2
            exact PySem.W.callWith_K0 (first := [.ref (w1.μ n)]) I1.kIn M1.kp (fin (us := []) I1 .nil p1.at_.refl r1 .nil)
          | cons b es =>
            rw [List.all_cons, Bool.and_eq_true] at hs
            have hR := hA.run pos pins t1 σ H1 (fun vs H2 => ∃ w2, Step w1 w2 H1 H2 ∧ StR G X.K w2 s2 ∧ VRs X.K w2 ds vs) I1 ⟨w1, s1, ρ, p1.at_, r1, e.mono p1.le, ds, s2, e2, fun w2 H2 vs p2 r2 k2 => ⟨w2, p2, r2, k2⟩⟩
            exact PySem.W.callWith_K (first := [.ref (w1.μ n)]) (h₀ := X.base) I.ok.mod.kin M1.kp (thn hR fun us t2 ⟨vs, H2, I2, rv, w2, p2, r2, k2⟩ => ⟨I2.kIn, fin I2 rv p2 r2 k2⟩) (star_cons hs.1) (back_any hs.2)
        · cases q1
      | _ => cases q1
  | _ => cases q1
/-! ### new objects -/
def makeM (c : Nat) (m : List VI.D → VI.M VI.D) (el : VI.Env → VI.M (List VI.D)) : VI.Env → VI.M VI.D := fun ρ => VI.bnd (el ρ) fun vs => fun s => VI.bnd (m (.ref s.length :: vs)) (fun r => match r with
      | .non => VI.ret (.ref s.length)
      | _ => VI.fail) (s ++ [.ins c []])
theorem make_rd {c : Nat} {ds : List VI.D} {vs : List V} {w : Wd} {st st' : VI.St} {H : Hp} {d : VI.D} {Q : VK} (at_ : At w H) (sr : StR G X.K w st) (k1 : VRs X.K w ds vs)
    (eq : (fun s => VI.bnd (m (.ref s.length :: ds)) (fun r => match r with
      | .non => VI.ret (.ref s.length)
      | _ => VI.fail) (s ++ [.ins c []])) st = some (d, st')) (q : Wn G X.K w H st' d Q) : ∀ x dx, H x = none → H dx = none → dx ≠ x →
    spF G X.K m (.ref x :: (vs ++ [])) (upd (upd H dx (.own x)) x (.ins (G.cls c) dx [])) (fun v H2 => v = .non ∧ Q (.ref x) H2) E0 := fun x dx hx hdx ne => by
  obtain ⟨r, s2, e2, q2⟩ := bnd_some.mp eq
  clear eq
  obtain ⟨w1, p1, r1, _, _⟩ := step_val (G := G) (K := X.K) (o := .own x) at_ sr hdx
  have hx1 : upd H dx (.own x) x = none := by rw [upd_ne (Ne.symm ne)]; exact hx
  obtain ⟨w2, p2, r2, k2, e3, e4⟩ := step_new (G := G) (K := X.K) (o := .ins (G.cls c) dx []) (c := .ins c []) p1.at_ r1 hx1 fun w' le hw => ⟨dx, [], hw, rfl⟩
  have p12 := p1.trans p2
  refine ⟨w2, _, .ref st.length :: ds, p2.at_, r2, by rw [List.append_nil]; exact .cons k2 (k1.mono p12.le), r, s2, e2, fun w3 H3 v3 p3 r3 k3 => ?_⟩
  cases r with
  | non =>
    cases q2
    exact ⟨k3.non_eq, q w3 H3 _ (p12.trans p3) r3 (k2.mono p3.le)⟩
  | _ => cases q2
/-- a class that is made -/
structure MkF (G : Nms) (P : Program) (wd : World) (K : PySem.W.Frag) (mg : Str → Option Value) (base : Heap) (k : Nat) (C : Addr) (m : List VI.D → VI.M VI.D) : Prop where
  ex : ∃ f, Mk K C f ∧ FnF G P wd K mg base k f m
theorem r_make {cn : Nat} (M : MkF G X.prog X.w X.K X.mg X.base k (G.cls cn) m) (hr : Room (k + 1) X.A) {x : Str} {p : Pos} (hg : Gl X x) (hm : X.mg x = some (.ref (G.cls cn))) (hd : (x == ("__debug__" : Str)) = false) (hs : (a :: es).all noStar = true) (hl : PA X (a :: es) (rdA G X.K el)) :
    PE X (.Call (.Name x p) (a :: es) [] pos) (rdE G X.K (makeM cn m el)) := by
  obtain ⟨f, M1, ⟨⟨fd, ps, F1, F2⟩, F3⟩⟩ := M
  rw [List.all_cons, Bool.and_eq_true] at hs
  refine PE.imp (pe_make M1 F1 hr hg hm F2 .nil pass0 hl hd (star_cons hs.1) (back_any hs.2)) fun σ H Q ⟨w, st, ρ, at_, sr, e, d, st', eq, q⟩ => ?_
  obtain ⟨ds, s1, e1, q1⟩ := bnd_some.mp eq
  exact ⟨w, st, ρ, at_, sr, e, ds, s1, e1, fun w1 H1 vs p1 r1 k1 => make_rd p1.at_ r1 k1 q1 fun w2 H2 v2 p2 => q w2 H2 v2 (p1.trans p2)⟩
theorem r_make0 {cn : Nat} (M : MkF G X.prog X.w X.K X.mg X.base k (G.cls cn) m) (hr : Room (k + 1) X.A) {x : Str} {p : Pos} (hg : Gl X x) (hm : X.mg x = some (.ref (G.cls cn))) (hd : (x == ("__debug__" : Str)) = false) :
    PE X (.Call (.Name x p) [] [] pos) (rdE G X.K (makeM cn m fun _ => VI.ret [])) := by
  obtain ⟨f, M1, ⟨⟨fd, ps, F1, F2⟩, F3⟩⟩ := M
  refine PE.imp (pe_make0 M1 F1 hr hg hm F2 .nil pass0 hd) fun σ H Q ⟨w, st, ρ, at_, sr, e, d, st', eq, q⟩ => ?_
  obtain ⟨ds, s1, e1, q1⟩ := bnd_some.mp eq
  cases e1
  exact make_rd at_ sr .nil q1 q
end
end VIS
end

section
set_option Elab.async false
set_option linter.all false
set_option maxRecDepth 100000
set_option maxHeartbeats 1000000
namespace VIS
open PySem PySem.Spec PyProof.Rows L2
/-! ### what is walked -/
def Yields (G : Nms) (K : PySem.W.Frag) (w0 : Wd) (H0 : Hp) (g : List (Nat × VI.Cell)) (J : L2.It) (l : List VI.D) : Prop :=
  ∀ (w : Wd) (H : Hp) (st : VI.St) (i : Nat), Step w0 w H0 H → StR G K w st → (∀ p ∈ g, st[p.1]? = some p.2) →
    (∀ d, l[i]? = some d → J.go i H ∧ ∀ x H', J.yld i H x H' → ∃ w', Step w w' H H' ∧ StR G K w' st ∧ VR K w' d x) ∧ (l.length ≤ i → J.stop i H)
def rdI (G : Nms) (K : PySem.W.Frag) (ev : VI.Env → VI.M (List VI.D × List (Nat × VI.Cell))) : TI := fun σ H R => ∃ w st ρ, At w H ∧ StR G K w st ∧ ER K w ρ σ ∧ ∃ r st', ev ρ st = some (r, st') ∧
  ∀ w' H' J, Step w w' H H' → StR G K w' st' → Yields G K w' H' r.2 J r.1 → R J H'
section
variable {G : Nms} {K : PySem.W.Frag} {w0 : Wd} {H0 : Hp}
theorem Step.at2 {w w' : Wd} {H H' : Hp} (p : Step w w' H H') : At w' H' := p.at_
theorem y_list {a : Addr} {vs : List V} {l : List VI.D} (hs : ∀ w H, Step w0 w H0 H → SqL K H a vs) (rs : VRs K w0 l vs) : Yields G K w0 H0 [] (Itl K a) l := fun w H st i p sr _ => by
  have h1 := hs w H p
  have h2 := rs.mono p.le
  refine ⟨fun d e => ?_, fun e => ⟨vs, h1, by rw [h2.length]; exact e⟩⟩
  obtain ⟨v, e1, k⟩ := h2.get e
  refine ⟨⟨vs, v, h1, e1⟩, fun x H' y => ?_⟩
  obtain ⟨rfl, y⟩ := y
  have := y vs h1
  rw [e1] at this
  cases this
  exact ⟨w, p.at_.refl, sr, k⟩
theorem y_tup {a : Addr} {vs : List V} {l : List VI.D} (hs : ∀ w H, Step w0 w H0 H → SqT K H a vs) (rs : VRs K w0 l vs) : Yields G K w0 H0 [] (Itt K a) l := fun w H st i p sr _ => by
  have h1 := hs w H p
  have h2 := rs.mono p.le
  refine ⟨fun d e => ?_, fun e => ⟨vs, h1, by rw [h2.length]; exact e⟩⟩
  obtain ⟨v, e1, k⟩ := h2.get e
  refine ⟨⟨vs, v, h1, e1⟩, fun x H' y => ?_⟩
  obtain ⟨rfl, y⟩ := y
  have := y vs h1
  rw [e1] at this
  cases this
  exact ⟨w, p.at_.refl, sr, k⟩
theorem y_ref {n : Nat} {l : List VI.D} (hn : n < w0.n) : Yields G K w0 H0 [(n, .lst l)] (Itl K (w0.μ n)) l := fun w H st i p sr g => by
  obtain ⟨vs, h1, h2⟩ := sr.lst (g (n, .lst l) (List.mem_cons_self ..))
  rw [p.le.μ n hn] at h1
  have h1 : SqL K H (w0.μ n) vs := .of (p.sub _ _ h1)
  refine ⟨fun d e => ?_, fun e => ⟨vs, h1, by rw [h2.length]; exact e⟩⟩
  obtain ⟨v, e1, k⟩ := h2.get e
  refine ⟨⟨vs, v, h1, e1⟩, fun x H' y => ?_⟩
  obtain ⟨rfl, y⟩ := y
  have := y vs h1
  rw [e1] at this
  cases this
  exact ⟨w, p.at_.refl, sr, k⟩
theorem y_range {lo : Int} {n : Nat} : Yields G K w0 H0 [] (Itr lo n) (VI.rangeD lo n) := fun w H st i p sr _ => by
  unfold VI.rangeD
  refine ⟨fun d e => ?_, fun e => ?_⟩
  · rw [List.getElem?_map] at e
    obtain ⟨j, e1, e2⟩ := Option.map_eq_some_iff.mp e
    obtain ⟨h1, h2⟩ := List.getElem?_eq_some_iff.mp e1
    rw [List.getElem_range] at h2
    subst h2 e2
    rw [List.length_range] at h1
    refine ⟨h1, fun x H' y => ?_⟩
    obtain ⟨rfl, rfl⟩ := y
    exact ⟨w, p.at_.refl, sr, .intI⟩
  · rw [List.length_map, List.length_range] at e
    exact e
theorem y_str {t : VI.Txt} : Yields G K w0 H0 [] (Its (toS t)) (t.map fun c => .str [c]) := fun w H st i p sr _ => by
  refine ⟨fun d e => ?_, fun e => ?_⟩
  · rw [List.getElem?_map] at e
    obtain ⟨c, e1, e2⟩ := Option.map_eq_some_iff.mp e
    subst e2
    have e3 : (toS t).cps[i]? = some c := by simpa [toS] using e1
    refine ⟨?_, fun x H' y => ?_⟩
    · exact (Array.getElem?_eq_some_iff.mp e3).1
    · obtain ⟨rfl, c', h1, rfl⟩ := y
      rw [e3] at h1
      cases h1
      exact ⟨w, p.at_.refl, sr, .strI (s := [c])⟩
  · rw [List.length_map] at e
    show (toS t).cps.size ≤ i
    simpa [toS] using e
end
section
variable {G : Nms} {X : Cx} {pos apos : Pos} {a b c tg e : Expr} {ea eb ec : VI.Env → VI.M VI.D} {es : List Expr} {el : VI.Env → VI.M (List VI.D)}
theorem PI.imp {t t' : TI} (h : PI X tg e t) (k : ∀ σ H Q, t' σ H Q → t σ H Q) : PI X tg e t' := ⟨fun pins s σ H R I q => h.run pins s σ H R I (k _ _ _ q)⟩
/-- an iterator by the value -/
theorem pi_val {te : TE} {r : V → Hp → (L2.It → Hp → Prop) → Prop} (he : PE X e te)
    (h : ∀ (pins : List (Addr × Obj)) (s : Shared) (σ : L2.St) (H : Hp) (x : V) (v : Value) (R : L2.It → Hp → Prop), Inv X pins σ H s → RelV x v → r x H R → wpAny (model X.prog X.w) X.A (pyIter v) (PIE X pins σ tg R) X.xe s) :
    PI X tg e (fun σ H R => te σ H fun x H1 => r x H1 R) :=
  ⟨fun pins s σ H R I q => thn (he.run pins s σ H _ I q) fun v s1 ⟨x, H1, I1, r1, q1⟩ => h pins s1 σ H1 x v R I1 r1 q1⟩
theorem it_list {pins : List (Addr × Obj)} {s : Shared} {σ : L2.St} {H : Hp} {p : Addr} {xs : List V} {R : L2.It → Hp → Prop} (I : Inv X pins σ H s) (hq : SqL X.K H p xs) (q : R (Itl X.K p) H) : wpAny (model X.prog X.w) X.A (pyIter (.ref p)) (PIE X pins σ tg R) X.xe s := by
  obtain ⟨its, rv, pl, hz⟩ := I.list hq
  exact wpAny_pyIter_list pl.isList (pi_one (tk := s.toks) I _ (turn_list p _) ⟨_, Heap.get?_push_size _ rfl, rfl, rfl⟩ q)
theorem it_tup {pins : List (Addr × Obj)} {s : Shared} {σ : L2.St} {H : Hp} {p : Addr} {xs : List V} {R : L2.It → Hp → Prop} (I : Inv X pins σ H s) (hq : SqT X.K H p xs) (q : R (Itt X.K p) H) : wpAny (model X.prog X.w) X.A (pyIter (.ref p)) (PIE X pins σ tg R) X.xe s := by
  obtain ⟨its, rv, pl, hz⟩ := I.tuple hq
  exact wpAny_pyIter_tuple (show s.heap.IsTuple p its.toArray from pl) (pi_one (tk := s.toks) I _ (turn_tuple p _) ⟨_, Heap.get?_push_size _ rfl, rfl, rfl⟩ q)
theorem it_str {pins : List (Addr × Obj)} {s : Shared} {σ : L2.St} {H : Hp} {x : Str} {t : Tok} {R : L2.It → Hp → Prop} (I : Inv X pins σ H s) (q : R (Its x) H) : wpAny (model X.prog X.w) X.A (pyIter (.str x t)) (PIE X pins σ tg R) X.xe s := by
  cases ha : x.cps.all (· < 128)
  · exact wpAny_pyIter_wide ha (pi_one (tk := s.toks) I _ (turn_str _ x t "str_iterator" (.inr rfl)) ⟨_, Heap.get?_push_size _ rfl, rfl, rfl⟩ q)
  · exact wpAny_pyIter_ascii ha (pi_one (tk := s.toks) I _ (turn_str _ x t "str_ascii_iterator" (.inl rfl)) ⟨_, Heap.get?_push_size _ rfl, rfl, rfl⟩ q)
/-- a sequence is walked -/
def rSeq (G : Nms) (K : PySem.W.Frag) : V → Hp → (L2.It → Hp → Prop) → Prop := fun x H R => ∃ w st d, At w H ∧ StR G K w st ∧ VR K w d x ∧ ∃ r st', VI.iterM .seq [d] st = some (r, st') ∧
  ∀ w' H' J, Step w w' H H' → StR G K w' st' → Yields G K w' H' r.2 J r.1 → R J H'
theorem it_seq (pins : List (Addr × Obj)) (s : Shared) (σ : L2.St) (H : Hp) (x : V) (v : Value) (R : L2.It → Hp → Prop) (I : Inv X pins σ H s) (rx : RelV x v) (h : rSeq G X.K x H R) : wpAny (model X.prog X.w) X.A (pyIter v) (PIE X pins σ tg R) X.xe s := by
  obtain ⟨w, st, d, at_, sr, k, r, st', eq, q⟩ := h
  cases d with
  | tup l =>
    cases eq
    obtain ⟨p, vs, rfl, hp, rs⟩ := k.tup_of
    cases rx
    exact it_tup I (hp.sq at_) (q w H _ at_.refl sr (y_tup (fun w' H' p' => (hp.mono p'.le).sq p'.at_) rs))
  | lst l =>
    cases eq
    obtain ⟨p, vs, rfl, hp, rs⟩ := k.lst_of
    cases rx
    exact it_list I (.of (at_.sub _ _ hp.1)) (q w H _ at_.refl sr (y_list (fun w' H' p' => .of (p'.sub _ _ (hp.mono p'.le).1)) rs))
  | fro l =>
    cases eq
    obtain ⟨p, vs, rfl, hp, rs⟩ := k.fro_of
    cases rx
    exact it_list I (hp.sq at_) (q w H _ at_.refl sr (y_list (fun w' H' p' => (hp.mono p'.le).sq p'.at_) rs))
  | str t =>
    cases eq
    have e := k.str_eq
    subst e
    obtain ⟨tk, rfl⟩ := rx
    exact it_str I (q w H _ at_.refl sr y_str)
  | ref n =>
    obtain ⟨hn, rfl⟩ := k.ref_of
    simp only [VI.iterM] at eq
    cases c : st[n]? with
    | none => rw [c] at eq; cases eq
    | some cc =>
      rw [c] at eq
      cases cc with
      | lst l =>
        cases eq
        obtain ⟨vs, h1, h2⟩ := sr.lst c
        cases rx
        exact it_list I (.of (at_.sub _ _ h1)) (q w H _ at_.refl sr (y_ref hn))
      | _ => cases eq
  | _ => cases eq
theorem p_seq (ha : PE X a (rdE G X.K ea)) : PI X tg a (rdI G X.K fun ρ => VI.bnd (VI.bnd (ea ρ) fun x => VI.bnd (VI.ret []) fun xs => VI.ret (x :: xs)) fun vs => VI.iterM .seq vs) := by
  refine PI.imp (pi_val ha (it_seq (G := G))) fun σ H R ⟨w, st, ρ, at_, sr, e, r, st', eq, q⟩ => ?_
  obtain ⟨vs, s1, e1, q1⟩ := bnd_some.mp eq
  obtain ⟨x, s2, e2, q2⟩ := bnd_some.mp e1
  obtain ⟨xs, s3, e3, q3⟩ := bnd_some.mp q2
  clear eq e1 q2
  cases e3
  cases q3
  refine ⟨w, st, ρ, at_, sr, e, x, _, e2, fun w1 H1 v1 p1 r1 k1 => ?_⟩
  exact ⟨w1, _, x, p1.at_, r1, k1, r, st', q1, fun w2 H2 J p2 => q w2 H2 J (p1.trans p2)⟩
theorem rng_rd {r : List VI.D × List (Nat × VI.Cell)} {ds : List VI.D} {st st' : VI.St} (h : VI.iterM .range ds st = some (r, st')) : st' = st ∧ r.2 = [] ∧ ((∃ j : Int, ds = [.int j] ∧ -(2 ^ 62) ≤ j ∧ j < 2 ^ 62 ∧ r.1 = VI.rangeD 0 j.toNat) ∨
    ∃ i j : Int, ds = [.int i, .int j] ∧ (-(2 ^ 62) ≤ i ∧ i < 2 ^ 62 ∧ -(2 ^ 62) ≤ j ∧ j < 2 ^ 62) ∧ r.1 = VI.rangeD i (j - i).toNat) := by
  match ds, h with
  | [.int j], h =>
    simp only [VI.iterM] at h
    split at h
    · rename_i hj
      cases h
      exact ⟨rfl, rfl, .inl ⟨_, rfl, hj.1, hj.2, rfl⟩⟩
    · cases h
  | [.int i, .int j], h =>
    simp only [VI.iterM] at h
    split at h
    · rename_i hj
      cases h
      exact ⟨rfl, rfl, .inr ⟨_, _, rfl, hj, rfl⟩⟩
    · cases h
theorem VRs.ints1 {K : PySem.W.Frag} {w : Wd} {j : Int} {vs : List V} (h : VRs K w [.int j] vs) : vs = [.int j] := by
  obtain ⟨v, rfl, k⟩ := h.one_of
  rw [k.int_eq]
theorem VRs.ints2 {K : PySem.W.Frag} {w : Wd} {i j : Int} {vs : List V} (h : VRs K w [.int i, .int j] vs) : vs = [.int i, .int j] := by
  obtain ⟨v, u, rfl, k, k2⟩ := h.two_of
  rw [k.int_eq, k2.int_eq]
theorem p_range1 {x : Str} {p : Pos} (hx : x = "range") (hg : Gl X x) (hm : X.mg x = none) (hs : noStar a = true) (hl : PA X [a] (rdA G X.K el)) (h1 : ∀ ρ s ds s', el ρ s = some (ds, s') → ds.length = 1) :
    PI X tg (.Call (.Name x p) [a] [] pos) (rdI G X.K fun ρ => VI.bnd (el ρ) fun vs => VI.iterM .range vs) := by
  subst hx
  refine PI.imp (pi_range1 hg hm hl (by rw [star_cons hs, star_all (es := []) rfl]; rfl)) fun σ H R ⟨w, st, ρ, at_, sr, e, r, st', eq, q⟩ => ?_
  obtain ⟨ds, s1, e1, q1⟩ := bnd_some.mp eq
  clear eq
  refine ⟨w, st, ρ, at_, sr, e, ds, s1, e1, fun w1 H1 vs p1 r1 k1 => ?_⟩
  obtain ⟨rfl, g, h⟩ := rng_rd q1
  rcases h with ⟨j, rfl, h2, h3, h4⟩ | ⟨i, j, rfl, _⟩
  · refine ⟨j, k1.ints1, h2, h3, q w1 H1 _ p1 r1 ?_⟩
    rw [g, h4]
    exact y_range
  · exact absurd (h1 _ _ _ _ e1) (by simp)
theorem p_range2 {x : Str} {p : Pos} (hx : x = "range") (hg : Gl X x) (hm : X.mg x = none) (hs : noStar a = true) (hs2 : noStar b = true) (hl : PA X [a, b] (rdA G X.K el)) (h1 : ∀ ρ s ds s', el ρ s = some (ds, s') → ds.length = 2) :
    PI X tg (.Call (.Name x p) [a, b] [] pos) (rdI G X.K fun ρ => VI.bnd (el ρ) fun vs => VI.iterM .range vs) := by
  subst hx
  refine PI.imp (pi_range2 hg hm hl (by rw [star_cons hs, star_cons hs2, star_all (es := []) rfl]; rfl) (by rw [star_cons hs2, star_all (es := []) rfl]; rfl)) fun σ H R ⟨w, st, ρ, at_, sr, e, r, st', eq, q⟩ => ?_
  obtain ⟨ds, s1, e1, q1⟩ := bnd_some.mp eq
  clear eq
  refine ⟨w, st, ρ, at_, sr, e, ds, s1, e1, fun w1 H1 vs p1 r1 k1 => ?_⟩
  obtain ⟨rfl, g, h⟩ := rng_rd q1
  rcases h with ⟨j, rfl, _⟩ | ⟨i, j, rfl, h2, h4⟩
  · exact absurd (h1 _ _ _ _ e1) (by simp)
  · refine ⟨i, j, k1.ints2, h2, q w1 H1 _ p1 r1 ?_⟩
    rw [g, h4]
    exact y_range
end
end VIS
end

section
set_option Elab.async false
set_option linter.all false
set_option maxRecDepth 100000
set_option maxHeartbeats 1000000
namespace VIS
open PySem PySem.Spec PyProof.Rows L2
def rdG (G : Nms) (K : PySem.W.Frag) (ev : VI.D → VI.Env → VI.M VI.Env) : TG := fun v σ H Q => ∃ w st ρ d, At w H ∧ StR G K w st ∧ ER K w ρ σ ∧ VR K w d v ∧ ∃ ρ' st', ev d ρ st = some (ρ', st') ∧
  ∀ w' H' σ', Step w w' H H' → StR G K w' st' → ER K w' ρ' σ' → Q σ' H'
def rdGs (G : Nms) (K : PySem.W.Frag) (ev : List VI.D → VI.Env → VI.M VI.Env) : TGs := fun v σ H Q => ∃ w st ρ d, At w H ∧ StR G K w st ∧ ER K w ρ σ ∧ VRs K w d v ∧ ∃ ρ' st', ev d ρ st = some (ρ', st') ∧
  ∀ w' H' σ', Step w w' H H' → StR G K w' st' → ER K w' ρ' σ' → Q σ' H'
def SEnd (K : PySem.W.Frag) (D : Ends) (f : VI.Fl) (w' : Wd) (H' : Hp) (σ' : L2.St) : Prop := match f with
  | .next => D.nx σ' H'
  | .brk => D.bk σ' H'
  | .cont => D.ct σ' H'
  | .ret d => ∀ v, VR K w' d v → D.rt v H'
def rdS (G : Nms) (K : PySem.W.Frag) (ev : VI.Env → VI.M (VI.Fl × VI.Env)) : TS := fun D σ H => ∃ w st ρ, At w H ∧ StR G K w st ∧ ER K w ρ σ ∧ ∃ r st', ev ρ st = some (r, st') ∧
  ∀ w' H' σ', Step w w' H H' → StR G K w' st' → ER K w' r.2 σ' → SEnd K D r.1 w' H' σ'
section
variable {X : Cx} {e : Expr}
theorem PG.imp {t t' : TG} (h : PG X e t) (k : ∀ v σ H Q, t' v σ H Q → t v σ H Q) : PG X e t' := ⟨fun pins s σ H v u Q I r q => h.run pins s σ H v u Q I r (k _ _ _ _ q)⟩
theorem PGs.imp {es : List Expr} {t t' : TGs} (h : PGs X es t) (k : ∀ v σ H Q, t' v σ H Q → t v σ H Q) : PGs X es t' := ⟨fun pins s σ H v u Q I r q => h.run pins s σ H v u Q I r (k _ _ _ _ q)⟩
theorem PS.imp {st : Stmt} {t t' : TS} (h : PS X st t) (k : ∀ D σ H, t' D σ H → t D σ H) : PS X st t' := ⟨fun pins s σ H D I q => h.run pins s σ H D I (k _ _ _ q)⟩
theorem PSs.imp {st : List Stmt} {t t' : TS} (h : PSs X st t) (k : ∀ D σ H, t' D σ H → t D σ H) : PSs X st t' := ⟨fun pins s σ H D I q => h.run pins s σ H D I (k _ _ _ q)⟩
end
section
variable {K : PySem.W.Frag} {w : Wd}
theorem ER.set {ρ : VI.Env} {σ : L2.St} {i : Nat} {d : VI.D} {v : V} (h : ER K w ρ σ) (r : VR K w d v) : ER K w (ρ.set i (some d)) (σ.set i (some v)) := by
  refine ⟨by rw [List.length_set, List.length_set]; exact h.len, fun j d' e => ?_⟩
  by_cases c : i = j
  · subst c
    rw [List.getElem?_set] at e ⊢
    simp only [if_true] at e ⊢
    split at e
    · rename_i hl
      cases e
      rw [h.len, if_pos hl]
      exact ⟨v, rfl, r⟩
    · cases e
  · rw [List.getElem?_set_ne c] at e ⊢
    exact h.at_ j d' e
theorem wipe_len (ρ : VI.Env) : ∀ vs : List Nat, (VI.wipe ρ vs).length = ρ.length
  | [] => rfl
  | v :: vs => by unfold VI.wipe; rw [List.length_set, wipe_len ρ vs]
theorem ER.wipe {ρ : VI.Env} {σ : L2.St} (h : ER K w ρ σ) : ∀ vs : List Nat, ER K w (VI.wipe ρ vs) (L2.wipe σ vs)
  | [] => h
  | v :: vs => by
    have ih := ER.wipe h vs
    refine ⟨by rw [wipe_len, wipe_length]; exact h.len, fun j d e => ?_⟩
    unfold VI.wipe at e
    unfold L2.wipe
    by_cases c : v = j
    · subst c
      rw [List.getElem?_set] at e
      simp only [if_true] at e
      split at e <;> cases e
    · rw [List.getElem?_set_ne c] at e ⊢
      exact ih.at_ j d e
end
section
variable {G : Nms} {X : Cx} {pos apos : Pos} {a b c tg e : Expr} {ea eb ec : VI.Env → VI.M VI.D} {es : List Expr} {el : VI.Env → VI.M (List VI.D)}
/-! ### targets -/
theorem g_name {i : Nat} {x : Str} (hN : X.N.Nodup) (hi : X.N[i]? = some x) (hx : Loc X.env.scope x) (hf : X.fn x = true ∨ X.env.scope.names.lookup x = some .local) : PG X (.Name x pos) (rdG G X.K fun d ρ => VI.ret (ρ.set i (some d))) :=
  PG.imp (pg_name hN hi hx hf) fun v σ H Q ⟨w, st, ρ, d, at_, sr, e, k, ρ', st', eq, q⟩ => by
    cases eq
    exact q w H _ at_.refl sr (e.set k)
theorem g_nil : PGs X [] (rdGs G X.K fun ds ρ => match ds with
    | [] => VI.ret ρ
    | _ :: _ => VI.fail) :=
  PGs.imp pgs_nil fun v σ H Q ⟨w, st, ρ, d, at_, sr, e, k, ρ', st', eq, q⟩ => by
    cases d with
    | nil =>
      cases eq
      simp only [VRs] at k
      exact ⟨k, q w H σ at_.refl sr e⟩
    | cons _ _ => cases eq
theorem assign_cons {env : Env} (h : noStar e = true) : assignEach (e :: es) env = (false, assign e env) :: assignEach es env := by
  cases e <;> first | rfl | (simp [noStar] at h)
theorem g_cons {g : VI.D → VI.Env → VI.M VI.Env} {gs : List VI.D → VI.Env → VI.M VI.Env} (hs : noStar e = true) (h1 : PG X e (rdG G X.K g)) (h2 : PGs X es (rdGs G X.K gs)) : PGs X (e :: es) (rdGs G X.K fun ds ρ => match ds with
    | d :: ds => VI.bnd (g d ρ) fun ρ' => gs ds ρ'
    | [] => VI.fail) :=
  PGs.imp (pgs_cons h1 h2 (by rw [assign_cons hs]; rfl)) fun v σ H Q ⟨w, st, ρ, d, at_, sr, e, k, ρ', st', eq, q⟩ => by
    cases d with
    | nil => cases eq
    | cons d ds =>
      simp only [VRs] at k
      obtain ⟨x, xs, rfl, k1, k2⟩ := k
      obtain ⟨ρ1, s1, e1, q1⟩ := bnd_some.mp eq
      refine ⟨x, xs, rfl, w, st, ρ, d, at_, sr, e, k1, ρ1, s1, e1, fun w1 H1 σ1 p1 r1 e1 => ?_⟩
      exact ⟨w1, s1, ρ1, ds, p1.at_, r1, e1, k2.mono p1.le, ρ', st', q1, fun w2 H2 σ2 p2 => q w2 H2 σ2 (p1.trans p2)⟩
theorem assign_len {env : Env} : ∀ {es : List Expr}, es.all noStar = true → (assignEach es env).length = es.length ∧ (assignEach es env).findIdx? (·.1) = none
  | [], _ => ⟨rfl, rfl⟩
  | e :: r, h => by
    rw [List.all_cons, Bool.and_eq_true] at h
    obtain ⟨h1, h2⟩ := assign_len (env := env) h.2
    rw [assign_cons h.1]
    refine ⟨by rw [List.length_cons, List.length_cons, h1], ?_⟩
    rw [List.findIdx?_cons]
    simp [h2]
theorem g_tup {gs : List VI.D → VI.Env → VI.M VI.Env} {k : Nat} (hc : X.calm = true) (hs : es.all noStar = true) (h : PGs X es (rdGs G X.K gs)) (hl : ∀ ds ρ s r, gs ds ρ s = some r → ds.length = es.length) : PG X (.Tuple es k pos) (rdG G X.K fun d ρ => match d with
    | .tup ds => gs ds ρ
    | _ => VI.fail) :=
  PG.imp (pg_tup hc h (assign_len hs).1 (assign_len hs).2) fun v σ H Q ⟨w, st, ρ, d, at_, sr, e, k, ρ', st', eq, q⟩ => by
    cases d with
    | tup ds =>
      obtain ⟨p, vs, rfl, hp, rs⟩ := k.tup_of
      exact ⟨p, vs, rfl, hp.sq at_, by rw [rs.length]; exact hl _ _ _ _ eq, w, st, ρ, ds, at_, sr, e, rs, ρ', st', eq, q⟩
    | _ => cases eq
/-! #### o[i] = v -/
def rSetI (G : Nms) (K : PySem.W.Frag) : TSet := fun o i v H Q => ∃ w st x y d, At w H ∧ StR G K w st ∧ VR K w x o ∧ VR K w y i ∧ VR K w d v ∧ ∃ st', VI.setItemM x y d st = some ((), st') ∧ ∀ w' H', Step w w' H H' → StR G K w' st' → Q H'
theorem set_item (hu : X.A.units + 1 < cLine) : PSet X (rSetI G X.K) := by
  intro pins s σ H o i v ov iv u Q I ro ri rv h
  obtain ⟨w, st, x, y, d, at_, sr, kx, ky, kd, st', eq, q⟩ := h
  cases x with
  | ref n =>
    obtain ⟨hn, rfl⟩ := kx.ref_of
    simp only [VI.setItemM] at eq
    have same : ∀ {c' : VI.Cell} {oo : HO}, (∃ c, st[n]? = some c) → (∀ o' u, H (w.μ n) ≠ some (.frz o' u)) → st' = st.set n c' → (∀ w', Le w w' → w'.H (w.μ n) = some oo → CR G X.K w' c' (w.μ n)) → Q (upd H (w.μ n) oo) := fun {c' oo} hc nf es hcr => by
      obtain ⟨c, hc⟩ := hc
      subst es
      obtain ⟨w', p1, s1, _, _⟩ := step_set (c' := c') (o := oo) at_ sr hc nf fun w' le hw _ _ => hcr w' le hw
      exact q w' _ p1 s1
    cases c : st[n]? with
    | none => rw [c] at eq; cases eq
    | some cc =>
      rw [c] at eq
      cases cc with
      | lst l =>
        cases y with
        | int k =>
          obtain ⟨j, e1, e2⟩ := Option.map_eq_some_iff.mp eq
          cases e2
          obtain ⟨vs, h1, h2⟩ := sr.lst c
          have h1' := at_.sub _ _ h1
          refine set_list pins s σ H _ _ _ ov iv u Q I ro ri rv ⟨_, vs, k, j, rfl, ky.int_eq, h1', by rw [h2.length]; exact e1, ?_⟩
          exact same ⟨_, c⟩ (fun _ _ z => by rw [h1'] at z; cases z) rfl fun w' le hw => ⟨_, hw, (h2.mono le).set (kd.mono le) j⟩
        | _ => cases eq
      | dic lk kvs =>
        cases lk with
        | true => cases eq
        | false =>
          simp only at eq
          cases ek : VI.D.ky y with
          | none => rw [ek] at eq; cases eq
          | some k =>
            rw [ek] at eq
            simp only at eq
            split at eq
            · rename_i hz
              cases eq
              obtain ⟨vs, h0, h1f, h2⟩ := sr.dic at_ c
              have h1' := at_.sub _ _ (h1f rfl)
              refine set_dict hu pins s σ H _ _ _ ov iv u Q I ro ri rv ⟨_, _, rfl, .inl ⟨vs, kyK k, h1', ky_ok ky ek, by rw [h2.length, ← LINE_eq]; exact hz, rfl⟩, ?_⟩
              exact same ⟨_, c⟩ (fun _ _ z => by rw [h1'] at z; cases z) rfl fun w' le hw => ⟨_, hw, (h2.mono le).put (kd.mono le)⟩
            · cases eq
      | ins _ _ => cases eq
  | _ => cases eq
theorem assign_sub {o i : Expr} {env : Env} {v : Value} (h : noSlice i = true) : assign (.Subscript o i pos) env v = (do
      let ov ← holding [v] (eval o env)
      let iv ← holding [v, ov] (eval i env)
      standAt pos
      holding [v, ov, iv] (setItem ov iv v)
      release [v, ov, iv] []) := by
  cases i <;> first | rfl | (simp [noSlice] at h)
theorem g_sub (hu : X.A.units + 1 < cLine) (hs : noSlice b = true) (ha : PE X a (rdE G X.K ea)) (hb : PE X b (rdE G X.K eb)) : PG X (.Subscript a b pos) (rdG G X.K fun d ρ => VI.bnd (ea ρ) fun x => VI.bnd (eb ρ) fun y => VI.bnd (VI.setItemM x y d) fun _ => VI.ret ρ) :=
  PG.imp (pg_sub ha hb (set_item (G := G) hu) fun v => assign_sub hs) fun v σ H Q ⟨w, st, ρ, d, at_, sr, e, k, ρ', st', eq, q⟩ => by
    obtain ⟨x, s1, e1, q1⟩ := bnd_some.mp eq
    obtain ⟨y, s2, e2, q2⟩ := bnd_some.mp q1
    obtain ⟨⟨⟩, s3, e3, q3⟩ := bnd_some.mp q2
    clear eq q1 q2
    cases q3
    refine ⟨w, st, ρ, at_, sr, e, x, s1, e1, fun w1 H1 v1 p1 r1 k1 => ?_⟩
    refine ⟨w1, s1, ρ, p1.at_, r1, e.mono p1.le, y, s2, e2, fun w2 H2 v2 p2 r2 k2 => ?_⟩
    refine ⟨w2, s2, x, y, d, p2.at_, r2, k1.mono p2.le, k2, (k.mono p1.le).mono p2.le, _, e3, fun w3 H3 p3 r3 => ?_⟩
    exact q w3 H3 σ ((p1.trans p2).trans p3) r3 (((e.mono p1.le).mono p2.le).mono p3.le)
/-! #### o.f = v -/
theorem set_fld {F : VI.Flds} (fo : FldOk G X.K F) {w : Wd} {H : Hp} {st st' : VI.St} {x d : VI.D} {f : Nat} {o v : V} {Q : Unit → Shared → Prop} {pins : List (Addr × Obj)} {σ : L2.St} {s : Shared} {u : Value} {E : Value → Shared → Prop} {A : Around}
    (I : Inv X pins σ H s) (at_ : At w H) (sr : StR G X.K w st) (kx : VR X.K w x o) (kd : VR X.K w d v) (rv : RelV v u) (eq : VI.setFldM F x f d st = some ((), st'))
    (q : ∀ w' H' s', Step w w' H H' → StR G X.K w' st' → Inv X pins σ H' s' → Q () s') : ∃ p, o = .ref p ∧ wpAny (model X.prog X.w) A (setAttr (.ref p) (G.nm f) u) Q E s := by
  cases x with
  | ref n =>
    obtain ⟨hn, rfl⟩ := kx.ref_of
    simp only [VI.setFldM] at eq
    cases c : st[n]? with
    | none => rw [c] at eq; cases eq
    | some cc =>
      rw [c] at eq
      cases cc with
      | ins cn fs =>
        simp only at eq
        split at eq
        · rename_i hf
          split at eq
          · rename_i hl
            cases eq
            obtain ⟨dx, vs, h1, h2⟩ := sr.ins at_ c
            obtain ⟨c1, c2⟩ := fo.cls _ _ hf
            refine ⟨_, rfl, setattr_ok I h1 c1 c2 (by rw [h2.length]; exact hl) rv fun s3 I3 => ?_⟩
            obtain ⟨w', p1, s1, _, _⟩ := step_set (c' := .ins cn (VI.putF f d fs)) (o := .ins (G.cls cn) dx (L2.putF (G.nm f) v vs)) at_ sr c (fun _ _ z => by rw [h1] at z; cases z)
              fun w' le hw _ _ => ⟨dx, _, hw, (h2.mono le).put fo.inj (kd.mono le)⟩
            exact q w' _ s3 p1 s1 I3
          · cases eq
        · cases eq
      | _ => cases eq
  | _ => cases eq
theorem g_fld {F : VI.Flds} (fo : FldOk G X.K F) {f : Nat} {n : Str} (hn : n = G.nm f) (ha : PE X a (rdE G X.K ea)) : PG X (.Attribute a n pos) (rdG G X.K fun d ρ => VI.bnd (ea ρ) fun x => VI.bnd (VI.setFldM F x f d) fun _ => VI.ret ρ) := by
  subst hn
  refine ⟨fun pins s σ H v u Q I rv ⟨w, st, ρ, d, at_, sr, e, k, ρ', st', eq, q⟩ => ?_⟩
  obtain ⟨x, s1, e1, q1⟩ := bnd_some.mp eq
  obtain ⟨⟨⟩, s3, e3, q3⟩ := bnd_some.mp q1
  clear eq q1
  cases q3
  show wpAny _ _ (do
    let ov ← holding [u] (eval a X.env)
    standAt pos.atName
    holding [u, ov] (setAttr ov (G.nm f) u)
    release [u, ov] []) _ _ _
  refine wpAny_bind (wpAny_holding (thn (ha.run pins s σ H (fun v1 H1 => ∃ w1, Step w w1 H H1 ∧ StR G X.K w1 s1 ∧ VR X.K w1 x v1) I ⟨w, st, ρ, at_, sr, e, x, s1, e1, fun w1 H1 v1 p1 r1 k1 => ⟨w1, p1, r1, k1⟩⟩) fun ov t1 ⟨y, H1, I1, ry, w1, p1, r1, k1⟩ => ?_))
  obtain ⟨p, rfl, h⟩ := set_fld (A := X.A) (E := X.xe) (Q := fun _ s' => wpAny (model X.prog X.w) X.A (release [u, ov] []) (fun _ s' => ∃ σ' H', Inv X pins σ' H' s' ∧ Q σ' H') X.xe s') fo I1 p1.at_ r1 k1 (k.mono p1.le) rv e3
    fun w2 H2 s2 p2 r2 I2 => wpAny_release ⟨σ, H2, I2, q w2 H2 σ (p1.trans p2) r2 ((e.mono p1.le).mono p2.le)⟩
  cases ry
  exact wpAny_bind (wpAny_standAt (wpAny_bind (wpAny_holding h)))
end
end VIS
end

section
set_option Elab.async false
set_option linter.all false
set_option maxRecDepth 100000
set_option maxHeartbeats 1000000
namespace VIS
open PySem PySem.Spec PyProof.Rows L2
section
variable {G : Nms} {X : Cx} {pos apos : Pos} {a b c tg e : Expr} {ea eb ec : VI.Env → VI.M VI.D} {es : List Expr} {el : VI.Env → VI.M (List VI.D)} {g : VI.D → VI.Env → VI.M VI.Env}
/-! ### statements -/
def asgM (ea : VI.Env → VI.M VI.D) (g : VI.D → VI.Env → VI.M VI.Env) : VI.Env → VI.M (VI.Fl × VI.Env) := fun ρ => VI.bnd (ea ρ) fun d => VI.bnd (g d ρ) fun ρ' => VI.ret (.next, ρ')
theorem asg_rd {σ : L2.St} {H : Hp} {D : Ends} (h : rdS G X.K (asgM ea g) D σ H) : tAsg (rdE G X.K ea) (rdG G X.K g) D σ H := by
  obtain ⟨w, st, ρ, at_, sr, e, r, st', eq, q⟩ := h
  obtain ⟨x, s1, e1, q1⟩ := bnd_some.mp eq
  obtain ⟨ρ', s2, e2, q2⟩ := bnd_some.mp q1
  clear eq q1
  cases q2
  refine ⟨w, st, ρ, at_, sr, e, x, s1, e1, fun w1 H1 v1 p1 r1 k1 => ?_⟩
  exact ⟨w1, s1, ρ, x, p1.at_, r1, e.mono p1.le, k1, ρ', _, e2, fun w2 H2 σ2 p2 r2 e2 => q w2 H2 σ2 (p1.trans p2) r2 e2⟩
theorem s_asg (hg : PG X tg (rdG G X.K g)) (he : PE X e (rdE G X.K ea)) (hs : swapsWith e (some tg) pos.line X.env = pure false) (hw : swappedStores [tg] e X.env = pure none) (hst : noStar tg = true) : PS X (.Assign [tg] e pos) (rdS G X.K (asgM ea g)) :=
  PS.imp (ps_asg he hg hs hw (by rw [assign_cons hst]; rfl)) fun _ _ _ h => asg_rd h
theorem s_expr (he : PE X e (rdE G X.K ea)) (hs : noComp e = true) : PS X (.Expr e pos) (rdS G X.K fun ρ => VI.bnd (ea ρ) fun _ => VI.ret (.next, ρ)) :=
  PS.imp (ps_expr he (sw_none hs)) fun D σ H ⟨w, st, ρ, at_, sr, e, r, st', eq, q⟩ => by
    obtain ⟨x, s1, e1, q1⟩ := bnd_some.mp eq
    clear eq
    cases q1
    exact ⟨w, st, ρ, at_, sr, e, x, _, e1, fun w1 H1 v1 p1 r1 k1 => q w1 H1 σ p1 r1 (e.mono p1.le)⟩
theorem s_ret (he : PE X e (rdE G X.K ea)) : PS X (.Return (some e) pos) (rdS G X.K fun ρ => VI.bnd (ea ρ) fun d => VI.ret (.ret d, ρ)) :=
  PS.imp (ps_ret he) fun D σ H ⟨w, st, ρ, at_, sr, e, r, st', eq, q⟩ => by
    obtain ⟨x, s1, e1, q1⟩ := bnd_some.mp eq
    clear eq
    cases q1
    exact ⟨w, st, ρ, at_, sr, e, x, _, e1, fun w1 H1 v1 p1 r1 k1 => q w1 H1 σ p1 r1 (e.mono p1.le) v1 k1⟩
theorem s_retN : PS X (.Return none pos) (rdS G X.K fun ρ => VI.bnd (VI.ret .non) fun d => VI.ret (.ret d, ρ)) :=
  PS.imp ps_retN fun D σ H ⟨w, st, ρ, at_, sr, e, r, st', eq, q⟩ => by
    obtain ⟨x, s1, e1, q1⟩ := bnd_some.mp eq
    clear eq
    cases e1
    cases q1
    exact q w H σ at_.refl sr e .non .nonI
theorem s_pass : PS X (.Pass pos) (rdS G X.K fun ρ => VI.ret (.next, ρ)) := PS.imp ps_pass fun D σ H ⟨w, st, ρ, at_, sr, e, r, st', eq, q⟩ => by
  cases eq
  exact q w H σ at_.refl sr e
theorem s_brk : PS X (.Break pos) (rdS G X.K fun ρ => VI.ret (.brk, ρ)) := PS.imp ps_break fun D σ H ⟨w, st, ρ, at_, sr, e, r, st', eq, q⟩ => by
  cases eq
  exact q w H σ at_.refl sr e
theorem s_cont : PS X (.Continue pos) (rdS G X.K fun ρ => VI.ret (.cont, ρ)) := PS.imp ps_continue fun D σ H ⟨w, st, ρ, at_, sr, e, r, st', eq, q⟩ => by
  cases eq
  exact q w H σ at_.refl sr e
theorem s_bad {st : Stmt} : PS X st (rdS G X.K fun ρ => VI.fail) := PS.imp (t := tNever) ps_never fun D σ H ⟨w, st, ρ, at_, sr, e, r, st', eq, q⟩ => by cases eq
theorem ss_bad {st : List Stmt} : PSs X st (rdS G X.K fun ρ => VI.fail) := ⟨fun pins s σ H D I ⟨w, st, ρ, at_, sr, e, r, st', eq, q⟩ => by cases eq⟩
/-! #### rows -/
def seqM (m n : VI.Env → VI.M (VI.Fl × VI.Env)) : VI.Env → VI.M (VI.Fl × VI.Env) := fun ρ => VI.bnd (m ρ) fun w => match w.1 with
    | .next => n w.2
    | _ => VI.ret w
variable {m n : VI.Env → VI.M (VI.Fl × VI.Env)}
theorem ss_nil : PSs X [] (rdS G X.K fun ρ => VI.ret (.next, ρ)) := PSs.imp pss_nil fun D σ H ⟨w, st, ρ, at_, sr, e, r, st', eq, q⟩ => by
  cases eq
  exact q w H σ at_.refl sr e
theorem ss_cons {st : Stmt} {sts : List Stmt} (h1 : PS X st (rdS G X.K m)) (h2 : PSs X sts (rdS G X.K n)) : PSs X (st :: sts) (rdS G X.K (seqM m n)) :=
  PSs.imp (pss_cons h1 h2) fun D σ H ⟨w, st, ρ, at_, sr, e, r, st', eq, q⟩ => by
    obtain ⟨f, s1, e1, q1⟩ := bnd_some.mp eq
    clear eq
    refine ⟨w, st, ρ, at_, sr, e, f, s1, e1, fun w1 H1 σ1 p1 r1 er => ?_⟩
    obtain ⟨fl, ρ1⟩ := f
    cases fl with
    | next => exact ⟨w1, s1, ρ1, p1.at_, r1, er, r, st', q1, fun w2 H2 σ2 p2 => q w2 H2 σ2 (p1.trans p2)⟩
    | brk => cases q1; exact q w1 H1 σ1 p1 r1 er
    | cont => cases q1; exact q w1 H1 σ1 p1 r1 er
    | ret d => cases q1; exact q w1 H1 σ1 p1 r1 er
def ifeM (ec : VI.Env → VI.M VI.D) (m n : VI.Env → VI.M (VI.Fl × VI.Env)) : VI.Env → VI.M (VI.Fl × VI.Env) := fun ρ => VI.bnd (ec ρ) fun x => VI.bnd (VI.truthM x) fun k => if k = true then m ρ else n ρ
theorem s_if {p q : List Stmt} (hc : PT X c (rdT G X.K (tst ec))) (ha : PSs X p (rdS G X.K m)) (hb : PSs X q (rdS G X.K n)) : PS X (.If c p q pos) (rdS G X.K (ifeM ec m n)) :=
  PS.imp (ps_if hc ha hb) fun D σ H ⟨w, st, ρ, at_, sr, e, r, st', eq, q⟩ => by
    obtain ⟨x, s1, e1, q1⟩ := bnd_some.mp eq
    obtain ⟨k, s2, e2, q2⟩ := bnd_some.mp q1
    clear eq q1
    refine ⟨w, st, ρ, at_, sr, e, k, s2, bnd_some.mpr ⟨x, s1, e1, e2⟩, fun w1 H1 p1 r1 => ?_⟩
    cases k with
    | true =>
      rw [if_pos rfl] at q2 ⊢
      exact ⟨w1, s2, ρ, p1.at_, r1, e.mono p1.le, r, st', q2, fun w2 H2 σ2 p2 => q w2 H2 σ2 (p1.trans p2)⟩
    | false =>
      rw [if_neg Bool.false_ne_true] at q2 ⊢
      exact ⟨w1, s2, ρ, p1.at_, r1, e.mono p1.le, r, st', q2, fun w2 H2 σ2 p2 => q w2 H2 σ2 (p1.trans p2)⟩
/-! #### loops -/
theorem s_while {body : List Stmt} {N : Nat} (hp : PassesOwn (model X.prog X.w) X.A X.env X.xe) (hc : PT X c (rdT G X.K (tst ec))) (hb : PSs X body (rdS G X.K m)) : PS X (.While c body [] pos) (rdS G X.K fun ρ => VI.whileN (tst ec) m N ρ) :=
  PS.imp (ps_while hp hc hb) fun D σ0 H0 ⟨w0, st0, ρ0, at0, sr0, e0, r, st', eq0, q0⟩ => by
    refine ⟨fun k σ H => ∃ w st ρ, Step w0 w H0 H ∧ StR G X.K w st ∧ ER X.K w ρ σ ∧ VI.whileN (tst ec) m k ρ st = some (r, st'), ⟨N, w0, st0, ρ0, at0.refl, sr0, e0, eq0⟩, ?_⟩
    rintro k σ H ⟨w, st, ρ, p, sr, e, eq⟩
    cases k with
    | zero => cases eq
    | succ k =>
      obtain ⟨b, s1, e1, q1⟩ := bnd_some.mp eq
      clear eq
      refine ⟨w, st, ρ, p.at_, sr, e, b, s1, e1, fun w1 H1 p1 r1 => ?_⟩
      cases b with
      | true =>
        rw [if_pos rfl] at q1 ⊢
        obtain ⟨f, s2, e2, q2⟩ := bnd_some.mp q1
        refine ⟨_, fun σ' H' h => h, w1, s1, ρ, p1.at_, r1, e.mono p1.le, f, s2, e2, fun w2 H2 σ2 p2 r2 er => ?_⟩
        obtain ⟨fl, ρ2⟩ := f
        have again : VI.whileN (tst ec) m k ρ2 s2 = some (r, st') → ∃ m', m' < k + 1 ∧ ∃ w st ρ, Step w0 w H0 H2 ∧ StR G X.K w st ∧ ER X.K w ρ σ2 ∧ VI.whileN (tst ec) m m' ρ st = some (r, st') := fun h =>
          ⟨k, Nat.lt_succ_self _, w2, s2, ρ2, (p.trans p1).trans p2, r2, er, h⟩
        cases fl with
        | next => exact again q2
        | cont => exact again q2
        | brk => cases q2; exact q0 w2 H2 σ2 ((p.trans p1).trans p2) r2 er
        | ret d => cases q2; exact q0 w2 H2 σ2 ((p.trans p1).trans p2) r2 er
      | false =>
        rw [if_neg Bool.false_ne_true] at q1 ⊢
        cases q1
        exact q0 w1 H1 σ (p.trans p1) r1 (e.mono p1.le)
theorem guard_some {g : List (Nat × VI.Cell)} {s s' : VI.St} {u : Unit} (h : VI.guard g s = some (u, s')) : (∀ p ∈ g, s[p.1]? = some p.2) ∧ s' = s := by
  unfold VI.guard at h
  split at h
  · rename_i hg
    cases h
    exact ⟨hg, rfl⟩
  · cases h
noncomputable def forM (ei : VI.Env → VI.M (List VI.D × List (Nat × VI.Cell))) (g : VI.D → VI.Env → VI.M VI.Env) (m : VI.Env → VI.M (VI.Fl × VI.Env)) : VI.Env → VI.M (VI.Fl × VI.Env) := fun ρ => VI.bnd (ei ρ) fun w =>
      VI.forL w.2 (fun d ρ => VI.bnd (g d ρ) fun ρ' => m ρ') w.1 ρ
theorem drop_cons {α : Type} {l r : List α} {i : Nat} {d : α} (h : l.drop i = d :: r) : l[i]? = some d ∧ l.drop (i + 1) = r := by
  refine ⟨?_, ?_⟩
  · have := congrArg (fun x => x[0]?) h
    simpa [List.getElem?_drop] using this
  · rw [← List.drop_drop, h]
    rfl
theorem for_rd {ei : VI.Env → VI.M (List VI.D × List (Nat × VI.Cell))} {D : Ends} {σ0 : L2.St} {H0 : Hp} (h : rdS G X.K (forM ei g m) D σ0 H0) : tFor (rdI G X.K ei) (rdG G X.K g) (rdS G X.K m) D σ0 H0 := by
  obtain ⟨w0, st0, ρ0, at0, sr0, e0, r, st', eq0, q0⟩ := h
  obtain ⟨it, s1, e1, q1⟩ := bnd_some.mp eq0
  clear eq0
  refine ⟨w0, st0, ρ0, at0, sr0, e0, it, s1, e1, fun w1 H1 J p1 r1 y => ?_⟩
  obtain ⟨its, gd⟩ := it
  refine ⟨fun i k σ H => ∃ w st ρ, Step w1 w H1 H ∧ StR G X.K w st ∧ ER X.K w ρ σ ∧ i ≤ its.length ∧ k = its.length - i ∧ VI.forL gd (fun d ρ => VI.bnd (g d ρ) fun ρ' => m ρ') (its.drop i) ρ st = some (r, st'),
    ⟨its.length, w1, s1, ρ0, p1.at_.refl, r1, e0.mono p1.le, Nat.zero_le _, rfl, by rw [List.drop_zero]; exact q1⟩, ?_⟩
  rintro i k σ H ⟨w, st, ρ, p, sr, e, hi, rfl, eq⟩
  cases hd : its.drop i with
  | nil =>
    rw [hd] at eq
    obtain ⟨⟨⟩, s2, e2, q2⟩ := bnd_some.mp eq
    clear eq
    obtain ⟨hgd, rfl⟩ := guard_some e2
    cases q2
    have hl : its.length ≤ i := by
      have := congrArg List.length hd
      rw [List.length_drop] at this
      simp at this
      omega
    exact .inl ⟨(y w H _ i p sr hgd).2 hl, q0 w H σ (p1.trans p) sr e⟩
  | cons d rest =>
    rw [hd] at eq
    obtain ⟨⟨⟩, s2, e2, q2⟩ := bnd_some.mp eq
    clear eq
    obtain ⟨hgd, rfl⟩ := guard_some e2
    obtain ⟨f, s3, e3, q3⟩ := bnd_some.mp q2
    obtain ⟨ρ2, s4, e4, q4⟩ := bnd_some.mp e3
    obtain ⟨hd1, hd2⟩ := drop_cons hd
    have hlt := (List.getElem?_eq_some_iff.mp hd1).1
    obtain ⟨go, yl⟩ := (y w H _ i p sr hgd).1 d hd1
    refine .inr ⟨go, _, fun σ' H' h => h, fun x H2 yy => ?_⟩
    obtain ⟨w2, p2, r2, k2⟩ := yl x H2 yy
    refine ⟨w2, _, ρ, d, p2.at_, r2, e.mono p2.le, k2, ρ2, s4, e4, fun w3 H3 σ3 p3 r3 e3 => ?_⟩
    refine ⟨w3, s4, ρ2, p3.at_, r3, e3, f, s3, q4, fun w4 H4 σ4 p4 r4 er => ?_⟩
    have pp := ((p.trans p2).trans p3).trans p4
    obtain ⟨fl, ρ4⟩ := f
    have again : VI.forL gd (fun d ρ => VI.bnd (g d ρ) fun ρ' => m ρ') rest ρ4 s3 = some (r, st') → ∃ m', m' < its.length - i ∧ ∃ w st ρ, Step w1 w H1 H4 ∧ StR G X.K w st ∧ ER X.K w ρ σ4 ∧ i + 1 ≤ its.length ∧ m' = its.length - (i + 1) ∧ VI.forL gd (fun d ρ => VI.bnd (g d ρ) fun ρ' => m ρ') (its.drop (i + 1)) ρ st = some (r, st') := fun h =>
      ⟨its.length - (i + 1), by omega, w4, s3, ρ4, pp, r4, er, hlt, rfl, by rw [hd2]; exact h⟩
    cases fl with
    | next => exact again q3
    | cont => exact again q3
    | brk => cases q3; exact q0 w4 H4 σ4 (p1.trans pp) r4 er
    | ret d => cases q3; exact q0 w4 H4 σ4 (p1.trans pp) r4 er
theorem s_for {body : List Stmt} {ei : VI.Env → VI.M (List VI.D × List (Nat × VI.Cell))} (hp : PassesOwn (model X.prog X.w) X.A X.env X.xe) (hc : X.calm = true) (hi : PI X tg e (rdI G X.K ei)) (hg : PG X tg (rdG G X.K g)) (hb : PSs X body (rdS G X.K m)) (hs : noSet e = true) :
    PS X (.For tg e body [] pos) (rdS G X.K (forM ei g m)) :=
  PS.imp (ps_for hp hc hi hg hb (folded_ok hs)) fun _ _ _ h => for_rd h
end
end VIS
end

section
set_option Elab.async false
set_option linter.all false
set_option maxRecDepth 100000
set_option maxHeartbeats 1000000
namespace VIS
open PySem PySem.Spec PyProof.Rows L2
section
variable {G : Nms} {X : Cx} {pos apos : Pos} {a b c tg e : Expr} {ea eb ec : VI.Env → VI.M VI.D} {es : List Expr} {el : VI.Env → VI.M (List VI.D)} {g : VI.D → VI.Env → VI.M VI.Env}
/-! ### op= -/
def rAug (G : Nms) (K : PySem.W.Frag) (o : VI.Bop) : V → V → Hp → VK → Prop := rd2 G K (VI.augI o)
theorem aug_in {o : VI.Bop} (ho : o = .add ∨ o = .sub) : InOp X (bO o) (rAug G X.K o) := by
  intro pins s σ H x y u v Q I rx ry h
  obtain ⟨w, st, dx, dy, at_, sr, kx, ky, d, st', eq, q⟩ := h
  rcases ho with rfl | rfl
  · unfold VI.augI at eq
    split at eq
    · cases eq
      exact in_add pins s σ H x y u v Q I rx ry ⟨_, _, kx.int_eq, ky.int_eq, here q at_ sr .intI⟩
    · cases eq
  · unfold VI.augI at eq
    split at eq
    · cases eq
      exact in_sub pins s σ H x y u v Q I rx ry ⟨_, _, kx.int_eq, ky.int_eq, here q at_ sr .intI⟩
    · cases eq
theorem s_augN {o : VI.Bop} (ho : o = .add ∨ o = .sub) {i : Nat} {x : Str} {p : Pos} (hN : X.N.Nodup) (hi : X.N[i]? = some x) (hx : Loc X.env.scope x) (hf : X.fn x = true ∨ X.env.scope.names.lookup x = some .local) (he : PE X e (rdE G X.K ea)) :
    PS X (.AugAssign (.Name x p) (bO o) e pos) (rdS G X.K fun ρ => VI.bnd (VI.opt (VI.slotD ρ i)) fun x => VI.bnd (ea ρ) fun y => VI.bnd (VI.augI o x y) fun z => VI.ret (.next, ρ.set i (some z))) :=
  PS.imp (ps_aug hN hi hx he (fun pins s σ H x y v u Q I rx ry h => aug_in (G := G) ho pins s σ H x y v u Q I rx ry h) hf) fun D σ H ⟨w, st, ρ, at_, sr, er, r, st', eq, q⟩ => by
    obtain ⟨x, s1, e1, q1⟩ := bnd_some.mp eq
    obtain ⟨y, s2, e2, q2⟩ := bnd_some.mp q1
    obtain ⟨z, s3, e3, q3⟩ := bnd_some.mp q2
    clear eq q1 q2
    cases q3
    have hs : ∃ v, σ[i]? = some (some v) ∧ VR X.K w x v ∧ s1 = st := by
      unfold VI.opt VI.slotD at e1
      cases c : ρ[i]? with
      | none => rw [c] at e1; cases e1
      | some o =>
        rw [c] at e1
        cases o with
        | none => cases e1
        | some d' =>
          cases e1
          obtain ⟨v, h1, h2⟩ := er.at_ i _ c
          exact ⟨v, h1, h2, rfl⟩
    obtain ⟨v, h1, h2, rfl⟩ := hs
    refine ⟨v, h1, w, s1, ρ, at_, sr, er, y, s2, e2, fun w1 H1 v1 p1 r1 k1 => ?_⟩
    refine ⟨w1, s2, x, y, p1.at_, r1, h2.mono p1.le, k1, z, _, e3, fun w2 H2 v2 p2 r2 k2 => ?_⟩
    exact q w2 H2 _ (p1.trans p2) r2 (((er.mono p1.le).mono p2.le).set k2)
end
end VIS
end

section
set_option Elab.async false
set_option linter.all false
set_option maxRecDepth 100000
set_option maxHeartbeats 1000000
namespace VIS
open PySem PySem.Spec PyProof.Rows L2
section
variable {G : Nms} {K : PySem.W.Frag} {w0 : Wd} {H0 : Hp}
/-! ### dicts are walked -/
theorem key_of {w : Wd} (k : VI.Ky) : VR K w k.d (kV (kyK k)) := by
  cases k with
  | inl i => exact .intI
  | inr s => exact .strI
theorem kr_get : ∀ {kvs : List (VI.Ky × VI.D)} {vs : List (Key × V)} {i : Nat} {p : VI.Ky × VI.D}, KR K w0 kvs vs → kvs[i]? = some p → ∃ v, vs[i]? = some (kyK p.1, v) ∧ VR K w0 p.2 v
  | [], _, _, _, _, e => by simp at e
  | q :: r, vs, 0, p, h, e => by
    obtain ⟨x, xs, rfl, h1, _⟩ := h
    simp at e
    subst e
    exact ⟨x, by simp, h1⟩
  | q :: r, vs, i + 1, p, h, e => by
    obtain ⟨x, xs, rfl, _, h2⟩ := h
    obtain ⟨v, e1, h3⟩ := kr_get (i := i) h2 (by simpa using e)
    exact ⟨v, by simpa using e1, h3⟩
theorem y_keys {d : Addr} {o : Obj} {kvs : List (VI.Ky × VI.D)} {vs : List (Key × V)} (hd : H0 d = some (.frz o (.dK vs))) (rs : KR K w0 kvs vs) : Yields G K w0 H0 [] (Itk d o vs) (kvs.map fun p => p.1.d) := fun w H st i p sr _ => by
  have h1 := p.frz _ _ _ hd
  have h2 := rs.mono p.le
  refine ⟨fun x e => ?_, fun e => ⟨h1, by rw [h2.length]; rw [List.length_map] at e; exact e⟩⟩
  rw [List.getElem?_map] at e
  obtain ⟨q, e1, e2⟩ := Option.map_eq_some_iff.mp e
  subst e2
  obtain ⟨v, e3, k⟩ := kr_get h2 e1
  refine ⟨⟨h1, (List.getElem?_eq_some_iff.mp e3).1⟩, fun x H' y => ?_⟩
  obtain ⟨rfl, k', v', e4, rfl⟩ := y
  rw [e3] at e4
  cases e4
  exact ⟨w, p.at_.refl, sr, key_of _⟩
theorem y_vals {d : Addr} {o : Obj} {kvs : List (VI.Ky × VI.D)} {vs : List (Key × V)} (hd : H0 d = some (.frz o (.dK vs))) (rs : KR K w0 kvs vs) : Yields G K w0 H0 [] (Itd d o vs) (kvs.map fun p => p.2) := fun w H st i p sr _ => by
  have h1 := p.frz _ _ _ hd
  have h2 := rs.mono p.le
  refine ⟨fun x e => ?_, fun e => ⟨h1, by rw [h2.length]; rw [List.length_map] at e; exact e⟩⟩
  rw [List.getElem?_map] at e
  obtain ⟨q, e1, e2⟩ := Option.map_eq_some_iff.mp e
  subst e2
  obtain ⟨v, e3, k⟩ := kr_get h2 e1
  refine ⟨⟨h1, (List.getElem?_eq_some_iff.mp e3).1⟩, fun x H' y => ?_⟩
  obtain ⟨rfl, k', e4⟩ := y
  rw [e3] at e4
  cases e4
  exact ⟨w, p.at_.refl, sr, k⟩
end
section
variable {G : Nms} {X : Cx} {pos apos : Pos} {a b c tg e : Expr} {ea eb ec : VI.Env → VI.M VI.D} {g : VI.D → VI.Env → VI.M VI.Env} {m : VI.Env → VI.M (VI.Fl × VI.Env)}
def itD (it : VI.It) (ea : VI.Env → VI.M VI.D) : VI.Env → VI.M (List VI.D × List (Nat × VI.Cell)) := fun ρ => VI.bnd (ea ρ) fun x => VI.iterD it x
theorem StR.dicT {K : PySem.W.Frag} {w : Wd} {H : Hp} {st : VI.St} (a : At w H) (s : StR G K w st) {n : Nat} {kvs : List (VI.Ky × VI.D)} (e : st[n]? = some (.dic true kvs)) : ∃ o vs, H (w.μ n) = some (.frz o (.dK vs)) ∧ w.H (w.μ n) = some (.frz o (.dK vs)) ∧ KR K w kvs vs := by
  obtain ⟨vs, h1, h2⟩ := s.cell n _ e
  rw [if_pos rfl] at h1
  obtain ⟨o, h1⟩ := h1
  exact ⟨o, vs, a.sub _ _ h1, h1, h2⟩
theorem p_keys (ha : PE X a (rdE G X.K ea)) : PI X tg a (rdI G X.K (itD .keys ea)) := by
  refine PI.imp (pi_keys ha) fun σ H R ⟨w, st, ρ, at_, sr, e, r, st', eq, q⟩ => ?_
  obtain ⟨x, s1, e1, q1⟩ := bnd_some.mp eq
  clear eq
  refine ⟨w, st, ρ, at_, sr, e, x, s1, e1, fun w1 H1 v1 p1 r1 k1 => ?_⟩
  cases x with
  | ref n =>
    obtain ⟨_, rfl⟩ := k1.ref_of
    simp only [VI.iterD] at q1
    split at q1
    · rename_i kvs h1 c
      cases q1
      obtain ⟨o, vs, h2, _, h3⟩ := r1.dicT p1.at_ c
      exact ⟨_, o, rfl, .inl ⟨vs, h2, q w1 H1 _ p1 r1 (y_keys h2 h3)⟩⟩
    · rename_i h1 c
      cases h1
    · cases q1
  | _ => cases q1
theorem p_vals (hp : plainO a = true) (hl : (apos.endLine == pos.line) = true) (ha : PE X a (rdE G X.K ea)) : PI X tg (.Call (.Attribute a "values" apos) [] [] pos) (rdI G X.K (itD .values ea)) := by
  refine PI.imp (pi_values ha (base_ok hp) hl) fun σ H R ⟨w, st, ρ, at_, sr, e, r, st', eq, q⟩ => ?_
  obtain ⟨x, s1, e1, q1⟩ := bnd_some.mp eq
  clear eq
  refine ⟨w, st, ρ, at_, sr, e, x, s1, e1, fun w1 H1 v1 p1 r1 k1 => ?_⟩
  cases x with
  | ref n =>
    obtain ⟨_, rfl⟩ := k1.ref_of
    simp only [VI.iterD] at q1
    split at q1
    · rename_i h1 c
      cases h1
    · rename_i kvs h1 c
      cases q1
      obtain ⟨o, vs, h2, _, h3⟩ := r1.dicT p1.at_ c
      exact ⟨_, o, vs, rfl, h2, q w1 H1 _ p1 r1 (y_vals h2 h3)⟩
    · cases q1
  | _ => cases q1
/-! #### locks -/
theorem step_unlock {K : PySem.W.Frag} {w w1 w' : Wd} {H H' : Hp} {st1 s2 : VI.St} {n : Nat} {od : Obj} {kvs' : List (VI.Ky × VI.D)} {vs : List (Key × V)} (hn : n < w.n) (hd : H (w.μ n) = some (.dK vs)) (a : At w H)
    (p0 : Step w w1 H (upd H (w.μ n) (.frz od (.dK vs)))) (p : Step w1 w' (upd H (w.μ n) (.frz od (.dK vs))) H') (sr : StR G K w' s2) (e2 : s2[n]? = some (.dic true kvs')) :
    ∃ w'', Step w w'' H (upd H' (w.μ n) (.dK vs)) ∧ StR G K w'' (s2.set n (.dic false kvs')) ∧ Le w' w'' := by
  have le : Le w w' := p0.le.trans p.le
  have en : w'.μ n = w.μ n := le.μ n hn
  have hn' : n < w'.n := Nat.lt_of_lt_of_le hn le.n
  have ow : own w (w.μ n) := ⟨n, hn, rfl⟩
  have ow' : own w' (w.μ n) := ⟨n, hn', en⟩
  have hf : H' (w.μ n) = some (.frz od (.dK vs)) := p.frz _ _ _ upd_same
  obtain ⟨o1, q1⟩ := a.ownd n hn
  have pp := p0.trans p
  have le2 : Le w' ⟨w'.n, w'.μ, upd w'.H (w.μ n) (.dK vs)⟩ := by
    refine ⟨Nat.le_refl _, fun _ _ => rfl, fun b o h no => ?_, fun i h1 h2 => absurd h2 (Nat.not_lt.mpr h1), fun b o h => ?_⟩
    · show upd w'.H (w.μ n) (.dK vs) b = some o
      rw [upd_ne (fun z => no (by rw [z]; exact ow'))]
      exact h
    · show ∃ o', upd w'.H (w.μ n) (.dK vs) b = some o'
      by_cases z : b = w.μ n
      · subst z; exact ⟨_, upd_same⟩
      · rw [upd_ne z]; exact ⟨_, h⟩
  refine ⟨⟨w'.n, w'.μ, upd w'.H (w.μ n) (.dK vs)⟩, ⟨⟨le.n, le.μ, fun b o h no => ?_, le.new, fun b o h => ?_⟩, fun b o h => ?_, fun b o h no => ?_, fun b o h => ?_, fun b o h => ?_, fun i hi => ?_, fun b o u h => ?_⟩, ⟨by rw [List.length_set]; exact sr.len, sr.inj, fun i c0 h => ?_⟩, le2⟩
  · show upd w'.H (w.μ n) (.dK vs) b = some o
    rw [upd_ne (fun z => no (by rw [z]; exact ow))]
    exact le.keep b o h no
  · show ∃ o', upd w'.H (w.μ n) (.dK vs) b = some o'
    by_cases z : b = w.μ n
    · subst z; exact ⟨_, upd_same⟩
    · rw [upd_ne z]; exact le.dom b o h
  · have h : upd w'.H (w.μ n) (.dK vs) b = some o := h
    by_cases z : b = w.μ n
    · subst z; rw [upd_same] at h ⊢; exact h
    · rw [upd_ne z] at h ⊢; exact p.sub b o h
  · rw [upd_ne (fun z => no (by rw [z]; exact ow))]
    exact pp.fr b o h no
  · have h : upd w'.H (w.μ n) (.dK vs) b = some o := h
    by_cases z : b = w.μ n
    · subst z; exact .inl fun y => by rw [q1] at y; cases y
    · rw [upd_ne z] at h; exact pp.fresh b o h
  · by_cases z : b = w.μ n
    · subst z; exact ⟨_, upd_same⟩
    · rw [upd_ne z]; exact pp.dom b o h
  · show ∃ o, upd w'.H (w.μ n) (.dK vs) (w'.μ i) = some o
    by_cases z : w'.μ i = w.μ n
    · rw [z]; exact ⟨_, upd_same⟩
    · rw [upd_ne z]; exact p.ownd i hi
  · have z : b ≠ w.μ n := fun z => by subst z; rw [hd] at h; cases h
    rw [upd_ne z]
    exact pp.frz b o u h
  · show CR G K ⟨w'.n, w'.μ, upd w'.H (w.μ n) (.dK vs)⟩ c0 (w'.μ i)
    have hi : i < w'.n := by
      rw [← sr.len]
      have := (List.getElem?_eq_some_iff.mp h).1
      rwa [List.length_set] at this
    by_cases z : i = n
    · subst z
      rw [List.getElem?_set_self (by rw [sr.len]; exact hn')] at h
      cases h
      obtain ⟨o, vs', h1, h2, h3⟩ := sr.dicT p.at_ e2
      rw [en, hf] at h1
      cases h1
      rw [en]
      exact ⟨vs, by rw [if_neg Bool.false_ne_true]; exact upd_same, h3.mono le2⟩
    · rw [List.getElem?_set_ne (fun q => z q.symm)] at h
      refine (sr.cell i c0 h).mono le2 ?_
      show upd w'.H (w.μ n) (.dK vs) (w'.μ i) = _
      rw [upd_ne (fun q => z (sr.inj i n hi hn' (q.trans en.symm)))]
noncomputable def fordM (it : VI.It) (ea : VI.Env → VI.M VI.D) (g : VI.D → VI.Env → VI.M VI.Env) (m : VI.Env → VI.M (VI.Fl × VI.Env)) : VI.Env → VI.M (VI.Fl × VI.Env) := fun ρ s => match ea ρ s with
      | some (.ref n, _) => (match s[n]? with
        | some (.dic false _) => VI.lockM n (forM (itD it ea) g m ρ) s
        | some (.dic true _) => forM (itD it ea) g m ρ s
        | _ => none)
      | _ => none
theorem ps_or {st : Stmt} {t u : TS} (h : PS X st t) (k : PS X st u) : PS X st (fun D σ H => t D σ H ∨ u D σ H) := ⟨fun pins s σ H D I q => q.elim (h.run pins s σ H D I) (k.run pins s σ H D I)⟩
theorem s_ford {it : VI.It} {body : List Stmt} (hp : PassesOwn (model X.prog X.w) X.A X.env X.xe) (hc : X.calm = true) (hi : PI X tg e (rdI G X.K (itD it ea))) (hg : PG X tg (rdG G X.K g)) (hb : PSs X body (rdS G X.K m)) (hs : noSet e = true) :
    PS X (.For tg e body [] pos) (rdS G X.K (fordM it ea g m)) := by
  have hF := ps_for (pos := pos) hp hc hi hg hb (folded_ok hs)
  refine PS.imp (ps_or hF (ps_lock hF)) fun D σ H ⟨w, st, ρ, at_, sr, er, r, st', eq, q⟩ => ?_
  unfold fordM at eq
  split at eq
  · rename_i n s0 e0
    split at eq
    · rename_i kvs c
      refine .inr ?_
      unfold VI.lockM at eq
      rw [c] at eq
      simp only at eq
      cases c2 : forM (itD it ea) g m ρ (st.set n (.dic true kvs)) with
      | none => rw [c2] at eq; cases eq
      | some z =>
        rw [c2] at eq
        obtain ⟨r2, s2⟩ := z
        simp only at eq
        cases c3 : s2[n]? with
        | none => rw [c3] at eq; cases eq
        | some cc =>
          rw [c3] at eq
          cases cc with
          | dic lk kvs' =>
            cases lk with
            | false => cases eq
            | true =>
              cases eq
              have hn := sr.lt c
              obtain ⟨vs, h1, h1f, h2⟩ := sr.dic at_ c
              have hd := at_.sub _ _ (h1f rfl)
              refine ⟨w.μ n, .dK vs, hd, trivial, fun od => ?_⟩
              obtain ⟨w1, p0, r1, _, _⟩ := step_set (c' := .dic true kvs) (o := .frz od (.dK vs)) at_ sr c (fun _ _ z => by rw [hd] at z; cases z) fun w' le hw _ _ => ⟨vs, by rw [if_pos rfl]; exact ⟨od, hw⟩, h2.mono le⟩
              refine for_rd ⟨w1, _, ρ, p0.at_, r1, er.mono p0.le, r, s2, c2, fun w' H' σ' p r' e' => ?_⟩
              obtain ⟨w'', p'', r'', le''⟩ := step_unlock (st1 := st) hn hd at_ p0 p r' c3
              have hf : H' (w.μ n) = some (.frz od (.dK vs)) := p.frz _ _ _ upd_same
              have fin := q w'' _ σ' p'' r'' (e'.mono le'')
              obtain ⟨fl, ρ'⟩ := r
              cases fl with
              | next => exact ⟨hf, fin⟩
              | brk => exact ⟨hf, fin⟩
              | cont => exact ⟨hf, fin⟩
              | ret dd => exact fun v kv => ⟨hf, fin v (kv.mono le'')⟩
          | _ => cases eq
    · exact .inl (for_rd ⟨w, st, ρ, at_, sr, er, r, st', eq, q⟩)
    · cases eq
  · cases eq
end
end VIS
end

section
set_option Elab.async false
set_option linter.all false
set_option maxRecDepth 100000
set_option maxHeartbeats 1000000
namespace VIS
open PySem PySem.Spec PyProof.Rows L2
section
variable {X : Cx} {pos : Pos}
def tPar3 (i j k : Nat) (ta : TA) : TS := fun D σ H => ta σ H fun vs H1 => ∃ v w u, vs = [v, w, u] ∧ D.nx (((σ.set i (some v)).set j (some w)).set k (some u)) H1
theorem ps_par3 {i j k : Nat} {x y z : Str} {a b c : Expr} {ta : TA} {px py pz pt : Pos} {kt k2 pt2} (hc : X.calm = true) (hN : X.N.Nodup) (hi : X.N[i]? = some x) (hj : X.N[j]? = some y) (hk : X.N[k]? = some z) (hij : i ≠ j) (hik : i ≠ k) (hjk : j ≠ k)
    (hx : X.env.scope.names.lookup x = some .local) (hy : X.env.scope.names.lookup y = some .local) (hz : X.env.scope.names.lookup z = some .local) (ha : PA X [a, b, c] ta)
    (hw : swappedStores [.Tuple [.Name x px, .Name y py, .Name z pz] kt pt] (.Tuple [a, b, c] k2 pt2) X.env = pure (some [x, y, z]))
    (hs : swapsWithSole [.Tuple [.Name x px, .Name y py, .Name z pz] kt pt] (.Tuple [a, b, c] k2 pt2) pos.line X.env = pure false := by rfl) :
    PS X (.Assign [.Tuple [.Name x px, .Name y py, .Name z pz] kt pt] (.Tuple [a, b, c] k2 pt2) pos) (tPar3 i j k ta) := by
  refine ⟨fun pins s σ H D I h => ?_⟩
  rw [exec_Assign_arm]
  refine wpAny_bind (wpAny_standAt ?_)
  rw [hs]
  refine wpAny_bind (wpAny_pure ?_)
  rw [if_neg (by decide)]
  refine wpAny_bind (Tuple_ (thn (ha.run _ pins s σ H _ I h) fun us s1 ⟨vs, H1, I1, r1, q1⟩ => ?_))
  obtain ⟨v, w, u, e1, q1⟩ := q1
  subst e1
  obtain ⟨u1, u2, u3, rfl, rv, rw', ru⟩ : ∃ u1 u2 u3, us = [u1, u2, u3] ∧ RelV v u1 ∧ RelV w u2 ∧ RelV u u3 := by
    cases r1 with
    | cons p q =>
      cases q with
      | cons p' q' =>
        cases q' with
        | cons p'' q'' =>
          cases q''
          exact ⟨_, _, _, rfl, p, p', p''⟩
  refine wpAny_newObj_type ?_ (by show 3 ≤ sizeLine; decide)
  have I2 : Inv X pins σ H1 { s1 with heap := s1.heap.push { cls := .type "tuple", data := .seq [u1, u2, u3].toArray } } := I1.kept (t' := s1.toks) fun b o e => Heap.get?_push_of_some _ e
  rw [hw]
  refine wpAny_bind (wpAny_pure ?_)
  show wpAny (model X.prog X.w) X.A (do rule "assign.swapped-stores"; let items ← unpackItems (.ref s1.heap.objs.size) 3 none; assignInOrder [fun v => bindName X.env z v, fun v => bindName X.env y v, fun v => bindName X.env x v] items.reverse; pure Flow.next) _ _ _
  refine wpAny_bind (wpAny_rule (wpAny_bind (unpackItems_tuple (items := #[u1, u2, u3]) (I.ok.hd hc) (IsTup.new s1.heap _) fun h' hx' => ?_)))
  have I3 := I2.kept (h' := h') (t' := s1.toks) fun b o e => hx' b o (Nat.ne_of_lt (Heap.lt_size e)) e
  show wpAny _ _ (assignInOrder [fun v => bindName X.env z v, fun v => bindName X.env y v, fun v => bindName X.env x v] [u3, u2, u1] >>= fun _ => pure Flow.next) _ _ _
  refine wpAny_bind (assignInOrder_cons (wpAny_bindName (store_ok I3 hN hk (.inl hz) ru (fun s2 I4 => ?_) (.inr hz))))
  refine assignInOrder_cons (wpAny_bindName (store_ok I4 hN hj (.inl hy) rw' (fun s3 I5 => ?_) (.inr hy)))
  refine assignInOrder_cons (wpAny_bindName (store_ok I5 hN hi (.inl hx) rv (fun s4 I6 => assignInOrder_nil (wpAny_pure ?_)) (.inr hx)))
  have e : ((σ.set k (some u)).set j (some w)).set i (some v) = ((σ.set i (some v)).set j (some w)).set k (some u) := by
    rw [List.set_comm _ _ (Ne.symm hij), List.set_comm _ _ (Ne.symm hik), List.set_comm _ _ (Ne.symm hjk)]
  rw [e] at I6
  exact ⟨_, H1, I6, q1⟩
end
/-- the names that are stored from the right -/
def parNm (sc : List (Str × NameKind)) (line : Nat) : List Expr → Option (List Str)
  | [] => some []
  | .Name x p :: r => (match kindIn sc x with
    | some .local => if (p.line == line) = true then (parNm sc line r).map (x :: ·) else none
    | _ => none)
  | _ :: _ => none
def notC : Expr → Bool
  | .Constant _ _ _ => false
  | .Name _ _ => false
  | .UnaryOp _ _ _ => false
  | .BinOp _ _ _ _ => false
  | .Subscript _ _ _ => false
  | .Tuple _ _ _ => false
  | _ => true
/-- some value is no constant -/
def parC (vs : List Expr) : Bool := vs.any fun e => !constantsAlone 8 e && !foldedForSure 8 e
theorem parC_ok {vs : List Expr} (h : parC vs = true) : vs.all (foldedForSure 8) = false ∧ vs.all (constantsAlone 8) = false := by
  unfold parC at h
  rw [List.any_eq_true] at h
  obtain ⟨e, he, h⟩ := h
  rw [Bool.and_eq_true, Bool.not_eq_true', Bool.not_eq_true'] at h
  refine ⟨?_, ?_⟩
  · rw [List.all_eq_false]
    exact ⟨e, he, by rw [h.2]; exact Bool.false_ne_true⟩
  · rw [List.all_eq_false]
    exact ⟨e, he, by rw [h.1]; exact Bool.false_ne_true⟩
section
variable {G : Nms} {X : Cx} {pos apos : Pos} {a b c tg e : Expr} {ea eb ec : VI.Env → VI.M VI.D} {es : List Expr} {el : VI.Env → VI.M (List VI.D)} {g : VI.D → VI.Env → VI.M VI.Env}
theorem beqS_ne {x y : Str} (h : eqS x y = false) : (x == y) = false ∧ (y == x) = false := by
  have hn : x ≠ y := fun z => by rw [z, eqS_refl] at h; cases h
  exact ⟨beq_eq_false_iff_ne.mpr hn, beq_eq_false_iff_ne.mpr (Ne.symm hn)⟩
theorem noStar_any {l : List Expr} (h : l.all noStar = true) (f : Expr → Bool) (hf : ∀ e, noStar e = true → f e = false) : ¬ l.any f = true := fun z => by
  rw [List.any_eq_true] at z
  obtain ⟨e, he, z⟩ := z
  rw [hf e (List.all_eq_true.mp h e he)] at z
  cases z
theorem swap2 {x y : Str} {px py pt : Pos} {kt k2 : Nat} {pt2 : Pos} {env : Env} (hk : env.scope.kind = .function) (hx : env.scope.names.lookup x = some .local) (hy : env.scope.names.lookup y = some .local) (hxy : eqS x y = false) (hl : (py.line == px.line) = true)
    (hs : [a, b].all noStar = true) (hC : parC [a, b] = true) : swappedStores [.Tuple [.Name x px, .Name y py] kt pt] (.Tuple [a, b] k2 pt2) env = pure (some [x, y]) := by
  have hb : env.blockKind = .function := by unfold Env.blockKind; rw [hk]; rfl
  have ex : env.kindOf x = some .local := hx
  have ey : env.kindOf y = some .local := hy
  obtain ⟨c1, c2⟩ := parC_ok hC
  have n1 := (beqS_ne hxy).1
  have n2 := (beqS_ne hxy).2
  have hl2 : py.line = px.line := by simpa using hl
  simp only [swappedStores]
  rw [if_neg (by simp [hb]), if_neg (noStar_any hs _ fun e he => by cases e <;> first | rfl | (simp [noStar] at he)), c1, c2]
  simp [List.filterMap_cons, ex, ey, hl2, n1, n2, List.eraseDups_cons, Expr.pos, List.filter_cons]
theorem swap3 {x y z : Str} {px py pz pt : Pos} {kt k2 : Nat} {pt2 : Pos} {env : Env} (hk : env.scope.kind = .function) (hx : env.scope.names.lookup x = some .local) (hy : env.scope.names.lookup y = some .local) (hz : env.scope.names.lookup z = some .local)
    (hxy : eqS x y = false) (hxz : eqS x z = false) (hyz : eqS y z = false) (hl : (py.line == px.line) = true) (hl' : (pz.line == px.line) = true)
    (hs : [a, b, c].all noStar = true) (hC : parC [a, b, c] = true) : swappedStores [.Tuple [.Name x px, .Name y py, .Name z pz] kt pt] (.Tuple [a, b, c] k2 pt2) env = pure (some [x, y, z]) := by
  have hb : env.blockKind = .function := by unfold Env.blockKind; rw [hk]; rfl
  have ex : env.kindOf x = some .local := hx
  have ey : env.kindOf y = some .local := hy
  have ez : env.kindOf z = some .local := hz
  obtain ⟨c1, c2⟩ := parC_ok hC
  have n1 := (beqS_ne hxy).1
  have n2 := (beqS_ne hxy).2
  have n3 := (beqS_ne hxz).1
  have n4 := (beqS_ne hxz).2
  have n5 := (beqS_ne hyz).1
  have n6 := (beqS_ne hyz).2
  have hl2 : py.line = px.line := by simpa using hl
  have hl3 : pz.line = px.line := by simpa using hl'
  simp only [swappedStores]
  rw [if_neg (by simp [hb]), if_neg (noStar_any hs _ fun e he => by cases e <;> first | rfl | (simp [noStar] at he)), c1, c2]
  simp [List.filterMap_cons, ex, ey, ez, hl2, hl3, n1, n2, n3, n4, n5, n6, List.eraseDups_cons, Expr.pos, List.filter_cons]
theorem rdS_mono {f f' : VI.Env → VI.M (VI.Fl × VI.Env)} (h : ∀ ρ s r, f ρ s = some r → f' ρ s = some r) {K : PySem.W.Frag} {D : Ends} {σ : L2.St} {H : Hp} (k : rdS G K f D σ H) : rdS G K f' D σ H := by
  obtain ⟨w, st, ρ, at_, sr, er, r, st', eq, q⟩ := k
  exact ⟨w, st, ρ, at_, sr, er, r, st', h _ _ _ eq, q⟩
theorem s_par2 {x y : Str} {i j : Nat} {px py pt : Pos} {kt k2 : Nat} {pt2 : Pos} (hc : X.calm = true) (hN : X.N.Nodup) (hk : X.env.scope.kind = .function) (hi : X.N[i]? = some x) (hj : X.N[j]? = some y) (hx : X.env.scope.names.lookup x = some .local) (hy : X.env.scope.names.lookup y = some .local) (hxy : eqS x y = false) (hl : (py.line == px.line) = true)
    (hs : [a, b].all noStar = true) (hC : parC [a, b] = true) (hA : PA X [a, b] (rdA G X.K el)) :
    PS X (.Assign [.Tuple [.Name x px, .Name y py] kt pt] (.Tuple [a, b] k2 pt2) pos) (rdS G X.K fun ρ => VI.bnd (el ρ) fun ds => match ds with
      | [d, e] => VI.ret (.next, (ρ.set i (some d)).set j (some e))
      | _ => VI.fail) := by
  have hij : i ≠ j := fun z => by
    subst z
    rw [hi] at hj
    cases hj
    rw [eqS_refl] at hxy
    cases hxy
  refine PS.imp (ps_par hc hN hi hj hij hx hy hA (swap2 hk hx hy hxy hl hs hC)) fun D σ H ⟨w, st, ρ, at_, sr, er, r, st', eq, q⟩ => ?_
  obtain ⟨ds, s1, e1, q1⟩ := bnd_some.mp eq
  clear eq
  refine ⟨w, st, ρ, at_, sr, er, ds, s1, e1, fun w1 H1 vs p1 r1 k1 => ?_⟩
  match ds, q1 with
  | [d, e], q1 =>
    cases q1
    obtain ⟨v, u, rfl, k2, k3⟩ := k1.two_of
    exact ⟨v, u, rfl, q w1 H1 _ p1 r1 (((er.mono p1.le).set k2).set k3)⟩
theorem VRs.three_of {K : PySem.W.Frag} {w : Wd} {d e f : VI.D} {vs : List V} (h : VRs K w [d, e, f] vs) : ∃ v u t, vs = [v, u, t] ∧ VR K w d v ∧ VR K w e u ∧ VR K w f t := by
  simp only [VRs] at h
  obtain ⟨x, xs, rfl, h1, y, ys, rfl, h2, z, zs, rfl, h3, rfl⟩ := h
  exact ⟨x, y, z, rfl, h1, h2, h3⟩
theorem s_par3 {x y z : Str} {i j k : Nat} {px py pz pt : Pos} {kt k2 : Nat} {pt2 : Pos} (hc : X.calm = true) (hN : X.N.Nodup) (hkd : X.env.scope.kind = .function) (hi : X.N[i]? = some x) (hj : X.N[j]? = some y) (hk : X.N[k]? = some z) (hx : X.env.scope.names.lookup x = some .local) (hy : X.env.scope.names.lookup y = some .local) (hz : X.env.scope.names.lookup z = some .local)
    (hxy : eqS x y = false) (hxz : eqS x z = false) (hyz : eqS y z = false) (hl : (py.line == px.line) = true) (hl' : (pz.line == px.line) = true)
    (hs : [a, b, c].all noStar = true) (hC : parC [a, b, c] = true) (hA : PA X [a, b, c] (rdA G X.K el)) :
    PS X (.Assign [.Tuple [.Name x px, .Name y py, .Name z pz] kt pt] (.Tuple [a, b, c] k2 pt2) pos) (rdS G X.K fun ρ => VI.bnd (el ρ) fun ds => match ds with
      | [d, e, f] => VI.ret (.next, ((ρ.set i (some d)).set j (some e)).set k (some f))
      | _ => VI.fail) := by
  have ne : ∀ {i j : Nat} {x y : Str}, X.N[i]? = some x → X.N[j]? = some y → eqS x y = false → i ≠ j := fun hi hj hxy z => by
    subst z
    rw [hi] at hj
    cases hj
    rw [eqS_refl] at hxy
    cases hxy
  refine PS.imp (ps_par3 hc hN hi hj hk (ne hi hj hxy) (ne hi hk hxz) (ne hj hk hyz) hx hy hz hA (swap3 hkd hx hy hz hxy hxz hyz hl hl' hs hC)) fun D σ H ⟨w, st, ρ, at_, sr, er, r, st', eq, q⟩ => ?_
  obtain ⟨ds, s1, e1, q1⟩ := bnd_some.mp eq
  clear eq
  refine ⟨w, st, ρ, at_, sr, er, ds, s1, e1, fun w1 H1 vs p1 r1 k1 => ?_⟩
  match ds, q1 with
  | [d, e, f], q1 =>
    cases q1
    obtain ⟨v, u, t, rfl, k2, k3, k4⟩ := k1.three_of
    exact ⟨v, u, t, rfl, q w1 H1 _ p1 r1 ((((er.mono p1.le).set k2).set k3).set k4)⟩
end
end VIS
end

section
set_option Elab.async false
set_option linter.all false
set_option maxRecDepth 100000
set_option maxHeartbeats 1000000
namespace VIS
open PySem PySem.Spec PyProof.Rows L2
theorem wipe_out2 {σ : L2.St} {i : Nat} {x : Option V} : ∀ {vs : List Nat}, i ∉ vs → L2.wipe (σ.set i x) vs = (L2.wipe σ vs).set i x
  | [], _ => rfl
  | v :: vs, h => by
    simp only [List.mem_cons, not_or] at h
    unfold L2.wipe
    rw [wipe_out2 h.2, List.set_comm _ _ h.1]
theorem wipe_in {σ : L2.St} {i : Nat} {x : Option V} : ∀ {vs : List Nat}, i ∈ vs → L2.wipe (σ.set i x) vs = L2.wipe σ vs
  | [], h => by cases h
  | v :: vs, h => by
    unfold L2.wipe
    by_cases c : i ∈ vs
    · rw [wipe_in c]
    · rcases List.mem_cons.mp h with e | e
      · subst e
        rw [wipe_out2 c, List.set_set]
      · exact absurd e c
def gNames : List Nat → TGs
  | [] => gNil
  | i :: is => gCons (gName i) (gNames is)
def gT (K : PySem.W.Frag) (t : List Nat) (tt : Bool) : TG := match tt, t with
  | false, [i] => gName i
  | false, _ => fun _ _ _ _ => False
  | true, t => gTup K t.length (gNames t)
section
variable {K : PySem.W.Frag} {w : Wd}
theorem names_rd {H : Hp} {Q : L2.St → Hp → Prop} {vs0 : List Nat} {σ0 : L2.St} : ∀ {t : List Nat} {ρ ρ' : VI.Env} {σ : L2.St} {ds : List VI.D} {vs : List V}, (∀ i ∈ t, i ∈ vs0) → VRs K w ds vs → ER K w ρ σ → L2.wipe σ vs0 = L2.wipe σ0 vs0 → VI.setAll ρ t ds = some ρ' →
    (∀ σ', ER K w ρ' σ' → L2.wipe σ' vs0 = L2.wipe σ0 vs0 → Q σ' H) → gNames t vs σ H Q
  | [], ρ, ρ', σ, ds, vs, _, k, er, hw, e, q => by
    cases ds with
    | nil =>
      cases e
      simp only [VRs] at k
      exact ⟨k, q σ er hw⟩
    | cons _ _ => cases e
  | i :: t, ρ, ρ', σ, ds, vs, ht, k, er, hw, e, q => by
    cases ds with
    | nil => cases e
    | cons d ds =>
      simp only [VRs] at k
      obtain ⟨x, xs, rfl, k1, k2⟩ := k
      refine ⟨x, xs, rfl, names_rd (fun j hj => ht j (List.mem_cons_of_mem _ hj)) k2 (er.set k1) ?_ e q⟩
      rw [wipe_in (ht i (List.mem_cons_self ..))]
      exact hw
theorem gT_rd {t : List Nat} {tt : Bool} {H : Hp} {v : V} {d : VI.D} {ρ ρ' : VI.Env} {σ : L2.St} {Q : L2.St → Hp → Prop} (at_ : At w H) (k : VR K w d v) (er : ER K w ρ σ) (vs0 : List Nat) (ht : ∀ i ∈ t, i ∈ vs0) (e : VI.setT ρ t tt d = some ρ')
    (q : ∀ σ', ER K w ρ' σ' → L2.wipe σ' vs0 = L2.wipe σ vs0 → Q σ' H) : gT K t tt v σ H Q := by
  cases tt with
  | false =>
    match t, e with
    | [i], e =>
      cases e
      exact q _ (er.set k) (wipe_in (ht i (List.mem_cons_self ..)))
  | true =>
    cases d with
    | tup ds =>
      obtain ⟨p, vs, rfl, hp, rs⟩ := k.tup_of
      refine ⟨p, vs, rfl, hp.sq at_, ?_, names_rd ht rs er rfl e q⟩
      rw [rs.length]
      have : ∀ {t : List Nat} {ρ : VI.Env} {ds : List VI.D}, VI.setAll ρ t ds = some ρ' → ds.length = t.length := by
        intro t
        induction t with
        | nil => intro ρ ds h; cases ds with
          | nil => rfl
          | cons _ _ => cases h
        | cons i t ih => intro ρ ds h; cases ds with
          | nil => cases h
          | cons d ds => rw [List.length_cons, List.length_cons, ih h]
      exact this e
    | _ => cases e
end
theorem wipe_wipe (σ : L2.St) : ∀ vs : List Nat, L2.wipe (L2.wipe σ vs) vs = L2.wipe σ vs := by
  have h : ∀ (vs us : List Nat), (∀ i ∈ vs, i ∈ us) → L2.wipe (L2.wipe σ vs) us = L2.wipe σ us := by
    intro vs
    induction vs with
    | nil => intro us _; rfl
    | cons v vs ih =>
      intro us h
      show L2.wipe ((L2.wipe σ vs).set v none) us = _
      rw [wipe_in (h v (List.mem_cons_self ..))]
      exact ih us fun i hi => h i (List.mem_cons_of_mem _ hi)
  exact fun vs => h vs vs fun i hi => hi
/-! ### the list that is being made -/
def er (H : Hp) (D : Addr) : Hp := fun b => if b = D then none else H b
theorem er_same {H : Hp} {D : Addr} : er H D D = none := by unfold er; rw [if_pos rfl]
theorem er_ne {H : Hp} {D b : Addr} (h : b ≠ D) : er H D b = H b := by unfold er; rw [if_neg h]
theorem er_some {H : Hp} {D b : Addr} {o : HO} (h : er H D b = some o) : b ≠ D ∧ H b = some o := by
  by_cases c : b = D
  · subst c; rw [er_same] at h; cases h
  · rw [er_ne c] at h; exact ⟨c, h⟩
theorem er_upd {H : Hp} {D : Addr} {o : HO} (h : H D = some o) : upd (er H D) D o = H := by
  funext b
  by_cases c : b = D
  · subst c; rw [upd_same, h]
  · rw [upd_ne c, er_ne c]
theorem step_er {w w' : Wd} {H H' : Hp} {D : Addr} (p : Step w w' H H') (h : H D = none) (h' : w'.H D = none) : Step w w' H (er H' D) := by
  have ne : ∀ {b : Addr} {o : HO}, H b = some o → b ≠ D := fun {b o} e z => by subst z; rw [h] at e; cases e
  refine ⟨p.le, fun b o e => ?_, fun b o e n => ?_, p.fresh, fun b o e => ?_, p.ownd, fun b o u e => ?_⟩
  · have : b ≠ D := fun z => by subst z; rw [h'] at e; cases e
    rw [er_ne this]; exact p.sub b o e
  · rw [er_ne (ne e)]; exact p.fr b o e n
  · rw [er_ne (ne e)]; exact p.dom b o e
  · rw [er_ne (ne e)]; exact p.frz b o u e
/-- an object that the worlds do not know stays so, and stays as it is -/
theorem step_hid {w w' : Wd} {H H' : Hp} {D : Addr} {o : HO} (p : Step w w' H H') (a : At w H) (h : w.H D = none) (hD : H D = some o) : w'.H D = none ∧ H' D = some o := by
  have no : ¬ own w D := fun ⟨i, hi, e⟩ => by
    obtain ⟨o1, q⟩ := a.ownd i hi
    rw [e, h] at q; cases q
  refine ⟨?_, p.fr D o hD no⟩
  cases q : w'.H D with
  | none => rfl
  | some o1 =>
    rcases p.fresh D o1 q with f | f
    · exact absurd h f
    · rw [hD] at f; cases f
/-- a change of such an object is no change for the worlds -/
theorem step_chg {w w' : Wd} {H H' : Hp} {D : Addr} {o : HO} (p : Step w w' H H') (h : H D = none) (h' : w'.H D = none) : Step w w' H (upd H' D o) := by
  have ne : ∀ {b : Addr} {o : HO}, H b = some o → b ≠ D := fun {b o} e z => by subst z; rw [h] at e; cases e
  refine ⟨p.le, fun b o e => ?_, fun b o e n => ?_, p.fresh, fun b o e => ?_, p.ownd, fun b o u e => ?_⟩
  · have : b ≠ D := fun z => by subst z; rw [h'] at e; cases e
    rw [upd_ne this]; exact p.sub b o e
  · rw [upd_ne (ne e)]; exact p.fr b o e n
  · rw [upd_ne (ne e)]; exact p.dom b o e
  · rw [upd_ne (ne e)]; exact p.frz b o u e
/-! ### comprehensions -/
noncomputable def compM (own : Bool) (ei : VI.Env → VI.M (List VI.D × List (Nat × VI.Cell))) (t : List Nat) (tt : Bool) (et : VI.Env → VI.M Bool) (ee : VI.Env → VI.M VI.D) : VI.Env → VI.M VI.D := fun ρ =>
  VI.bnd (ei ρ) fun w => VI.bnd (VI.mapG w.2 (fun d => match VI.setT (VI.wipe ρ t) t tt d with
        | none => VI.fail
        | some ρ' => VI.bnd (et ρ') fun k => if k = true then VI.bnd (ee ρ') fun y => VI.ret (some y) else VI.ret none) w.1 []) fun ys => VI.mk own ys
section
variable {G : Nms} {K : PySem.W.Frag}
theorem comp_rd {own : Bool} {ei : VI.Env → VI.M (List VI.D × List (Nat × VI.Cell))} {t : List Nat} {tt : Bool} {et : VI.Env → VI.M Bool} {ee : VI.Env → VI.M VI.D} {σ : L2.St} {H : Hp} {Q : VK}
    (h : rdE G K (compM own ei t tt et ee) σ H Q) : tLc (rdI G K ei) (gT K t tt) (rdT G K et) (rdE G K ee) t σ H Q := by
  obtain ⟨w0, st0, ρ0, at0, sr0, er0, d, st', eq, q0⟩ := h
  obtain ⟨it, s1, e1, q1⟩ := bnd_some.mp eq
  obtain ⟨ys, s2, e2, q2⟩ := bnd_some.mp q1
  clear eq q1
  obtain ⟨its, gd⟩ := it
  refine ⟨w0, st0, ρ0, at0, sr0, er0, (its, gd), s1, e1, fun w1 H1 J p1 r1 y => ?_⟩
  intro D hD
  have hwD : w1.H D = none := by
    cases q : w1.H D with
    | none => rfl
    | some o => rw [p1.sub _ _ q] at hD; cases hD
  refine ⟨fun i k H => ∃ w st acc vs, Step w1 w H1 H ∧ StR G K w st ∧ w.H D = none ∧ H D = some (.lst vs) ∧ VRs K w acc vs ∧ i ≤ its.length ∧ k = its.length - i ∧
    VI.mapG gd (fun d => match VI.setT (VI.wipe ρ0 t) t tt d with
        | none => VI.fail
        | some ρ' => VI.bnd (et ρ') fun k => if k = true then VI.bnd (ee ρ') fun y => VI.ret (some y) else VI.ret none) (its.drop i) acc st = some (ys, s2),
    ⟨its.length, w1, s1, [], [], step_chg p1.at_.refl hD hwD, r1, hwD, upd_same, .nil, Nat.zero_le _, rfl, by rw [List.drop_zero]; exact e2⟩, ?_⟩
  rintro i k H ⟨w, st, acc, vs, p, sr, hw, hH, rs, hi, rfl, eq⟩
  cases hd : its.drop i with
  | nil =>
    rw [hd] at eq
    obtain ⟨⟨⟩, s3, e3, q3⟩ := bnd_some.mp eq
    clear eq
    obtain ⟨hgd, rfl⟩ := guard_some e3
    cases q3
    have hl : its.length ≤ i := by
      have := congrArg List.length hd
      rw [List.length_drop] at this
      simp at this
      omega
    refine .inl ⟨(y w H _ i p sr hgd).2 hl, ?_⟩
    have pe := step_er p hD hw
    have := lst_new (Q := Q) pe.at_ sr rs q2 (fun w' H' v p' => q0 w' H' v ((p1.trans pe).trans p')) D er_same
    rw [er_upd hH] at this
    exact this
  | cons x rest =>
    rw [hd] at eq
    obtain ⟨⟨⟩, s3, e3, q3⟩ := bnd_some.mp eq
    clear eq
    obtain ⟨hgd, rfl⟩ := guard_some e3
    obtain ⟨o, s4, e4, q4⟩ := bnd_some.mp q3
    clear q3
    simp only [] at e4
    obtain ⟨hd1, hd2⟩ := drop_cons hd
    have hlt := (List.getElem?_eq_some_iff.mp hd1).1
    obtain ⟨go, yl⟩ := (y w H _ i p sr hgd).1 x hd1
    refine .inr ⟨go, _, fun H' h => h, fun v H2 yy => ?_⟩
    obtain ⟨w2, p2, r2, k2⟩ := yl v H2 yy
    obtain ⟨hw2, hH2⟩ := step_hid p2 p.at_ hw hH
    cases ht : VI.setT (VI.wipe ρ0 t) t tt x with
    | none => simp only [ht] at e4; cases e4
    | some ρ2 =>
      simp only [ht] at e4
      obtain ⟨b, s5, e5, q5⟩ := bnd_some.mp e4
      clear e4
      have le2 := (p.trans p2).le
      refine gT_rd (vs0 := t) p2.at_ k2 (((er0.mono p1.le).mono le2).wipe t) (fun i hi => hi) ht fun σ2 er2 hws => ⟨by rw [hws, wipe_wipe], ?_⟩
      refine ⟨w2, _, ρ2, p2.at_, r2, er2, b, s5, e5, fun w3 H3 p3 r3 => ?_⟩
      obtain ⟨hw3, hH3⟩ := step_hid p3 p2.at_ hw2 hH2
      have pp := (p.trans p2).trans p3
      cases b with
      | true =>
        rw [if_pos rfl] at q5 ⊢
        obtain ⟨yd, s6, e6, q6⟩ := bnd_some.mp q5
        cases q6
        refine ⟨w3, s5, ρ2, p3.at_, r3, er2.mono p3.le, yd, _, e6, fun w4 H4 v4 p4 r4 k4 => ?_⟩
        obtain ⟨hw4, hH4⟩ := step_hid p4 p3.at_ hw3 hH3
        have q4' : (if acc.length < VI.LINE then VI.mapG gd _ rest (acc ++ [yd]) else VI.fail) s4 = some (ys, s2) := q4
        split at q4'
        · rename_i hz
          have rs4 := rs.mono (p2.le.trans (p3.le.trans p4.le))
          refine ⟨vs, hH4, by rw [rs.length, ← LINE_eq]; exact hz, its.length - (i + 1), by omega, w4, _, acc ++ [yd], vs ++ [v4], step_chg (pp.trans p4) hD hw4, r4, hw4, upd_same, rs4.append (.one k4), hlt, rfl, ?_⟩
          rw [hd2]
          exact q4'
        · cases q4'
      | false =>
        rw [if_neg Bool.false_ne_true] at q5 ⊢
        cases q5
        refine ⟨its.length - (i + 1), by omega, w3, _, acc, vs, pp, r3, hw3, hH3, rs.mono (p2.le.trans p3.le), hlt, rfl, ?_⟩
        rw [hd2]
        exact q4
end
end VIS
end

section
set_option Elab.async false
set_option linter.all false
set_option maxRecDepth 100000
set_option maxHeartbeats 1000000
namespace VIS
open PySem PySem.Spec PyProof.Rows L2
/-! ### the text and its term -/
structure Tab where
  N : List Str
  sc : Scope
  own : Option Scope
structure Base where
  fns : List Str
  cls : List Str
  nm : List Str
  cst : List (Str × VI.D)
def isCell : Option NameKind → Bool
  | some .cell => true
  | _ => false
def isLocal : Option NameKind → Bool
  | some .local => true
  | _ => false
def isVis : Option NameKind → Bool
  | some .local => true
  | some .cell => true
  | some .free => true
  | _ => false
def isGlob : Option NameKind → Bool
  | some .globalImplicit => true
  | _ => false
def Tab.kd (T : Tab) (x : Str) : Option NameKind := kindIn T.sc.names x
def Tab.fnB (T : Tab) (x : Str) : Bool := match T.own with
  | none => true
  | some s => isCell (kindIn s.names x)
def Tab.at_ (T : Tab) (i : Nat) (x : Str) : Bool := match T.N[i]? with
  | some y => eqS y x
  | none => false
def Tab.isSlot (T : Tab) (i : Nat) (x : Str) : Bool := T.at_ i x && isVis (T.kd x)
def Tab.isSto (T : Tab) (i : Nat) (x : Str) : Bool := T.at_ i x && (isLocal (T.kd x) || (isCell (T.kd x) && T.fnB x))
def Tab.isGl (T : Tab) (x : Str) : Bool := isGlob (T.kd x)
def Tab.blk (T : Tab) (scope : Scope) : Tab := ⟨T.N, relS scope T.sc, some scope⟩
mutual
def eqD : VI.D → VI.D → Bool
  | .non, .non => true
  | .bl a, .bl b => match a, b with
    | true, true => true
    | false, false => true
    | _, _ => false
  | .int i, .int j => decide (i = j)
  | .str s, .str t => eqL s t
  | .tup l, .tup m => eqDs l m
  | .fro l, .fro m => eqDs l m
  | _, _ => false
def eqDs : List VI.D → List VI.D → Bool
  | [], [] => true
  | a :: r, b :: q => eqD a b && eqDs r q
  | _, _ => false
end
mutual
theorem eqD_eq : ∀ {a b : VI.D}, eqD a b = true → a = b
  | .non, b, h => by cases b <;> simp [eqD] at h; rfl
  | .bl a, b, h => by
    cases b with
    | bl b => cases a <;> cases b <;> simp [eqD] at h <;> rfl
    | _ => simp [eqD] at h
  | .int a, b, h => by
    cases b with
    | int b => simp [eqD] at h; rw [h]
    | _ => simp [eqD] at h
  | .str a, b, h => by
    cases b with
    | str b => simp only [eqD] at h; rw [eqL_eq h]
    | _ => simp [eqD] at h
  | .tup a, b, h => by
    cases b with
    | tup b => simp only [eqD] at h; rw [eqDs_eq h]
    | _ => simp [eqD] at h
  | .fro a, b, h => by
    cases b with
    | fro b => simp only [eqD] at h; rw [eqDs_eq h]
    | _ => simp [eqD] at h
  | .lst a, b, h => by cases b <;> simp [eqD] at h
  | .ref a, b, h => by cases b <;> simp [eqD] at h
theorem eqDs_eq : ∀ {a b : List VI.D}, eqDs a b = true → a = b
  | [], [], _ => rfl
  | [], _ :: _, h => by simp [eqDs] at h
  | _ :: _, [], h => by simp [eqDs] at h
  | a :: r, b :: q, h => by
    simp only [eqDs, Bool.and_eq_true] at h
    rw [eqD_eq h.1, eqDs_eq h.2]
end
/-- a written constant, a constant of the module -/
def okC (B : Base) (T : Tab) (d : VI.D) : Expr → Bool
  | .Constant c _ _ => (match c, d with
    | .none, .non => true
    | .bool true, .bl true => true
    | .bool false, .bl false => true
    | .int i, .int j => decide (i = j)
    | .str s, .str t => eqL s.cps.toList t
    | _, _ => false)
  | .Name x _ => T.isGl x && B.cst.any fun p => eqS p.1 x && eqD p.2 d
  | _ => false
def bopIs : Operator → VI.Bop → Bool
  | .Add, .add => true
  | .Sub, .sub => true
  | .Mult, .mul => true
  | .FloorDiv, .fdiv => true
  | .Mod, .mod => true
  | .Pow, .pow => true
  | .BitAnd, .band => true
  | _, _ => false
theorem bopIs_eq {o : Operator} {b : VI.Bop} (h : bopIs o b = true) : o = bO b := by
  cases o <;> cases b <;> first | rfl | (simp [bopIs] at h)
def copIs : CmpOp → VI.Cop → Bool
  | .Eq, .eq => true
  | .NotEq, .ne => true
  | .Lt, .lt => true
  | .LtE, .le => true
  | .Gt, .gt => true
  | .GtE, .ge => true
  | .Is, .is => true
  | .IsNot, .isnot => true
  | .In, .mem => true
  | .NotIn, .notmem => true
  | _, _ => false
theorem copIs_eq {o : CmpOp} {b : VI.Cop} (h : copIs o b = true) : o = cO b := by
  cases o <;> cases b <;> first | rfl | (simp [copIs] at h)
def nthS (l : List Str) (i : Nat) (x : Str) : Bool := match l[i]? with
  | some y => eqS y x
  | none => false
theorem nthS_eq {l : List Str} {i : Nat} {x : Str} (h : nthS l i x = true) : l[i]? = some x := by
  unfold nthS at h
  split at h
  · rename_i y e
    rw [e, eqS_eq h]
  · cases h
def isNil {α : Type} : List α → Bool
  | [] => true
  | _ => false
theorem isNil_eq {α : Type} {l : List α} (h : isNil l = true) : l = [] := by
  cases l with
  | nil => rfl
  | cons _ _ => cases h
def isNone {α : Type} : Option α → Bool
  | none => true
  | _ => false
/-- the comprehension's own names: their places -/
def ownOf (N : List Str) : List Nat → Option (List (Str × Nat))
  | [] => some []
  | i :: r => match N[i]?, ownOf N r with
    | some x, some l => some ((x, i) :: l)
    | _, _ => none
/-- a comprehension's target -/
def okTg (T : Tab) : List Nat → Bool → Expr → Bool
  | [i], false, .Name x _ => T.isSto i x
  | t, true, .Tuple es _ _ => es.all noStar && okNs T t es
  | _, _, _ => false
where okNs (T : Tab) : List Nat → List Expr → Bool
  | [], [] => true
  | i :: r, .Name x _ :: es => T.isSto i x && okNs T r es
  | _, _ => false
mutual
def okE (B : Base) : VI.E → Tab → Expr → Bool
  | .slot i, T, e => match e with
    | .Name x _ => T.isSlot i x
    | _ => false
  | .cst d, T, e => okC B T d e
  | .bop o own a b, T, e => match e with
    | .BinOp x op y _ => bopIs op o && okE B a T x && okE B b T y
    | _ => false
  | .neg a, T, e => match e with
    | .UnaryOp .USub x _ => okE B a T x
    | _ => false
  | .not a, T, e => match e with
    | .UnaryOp .Not x _ => okE B a T x
    | _ => false
  | .and l, T, e => match e with
    | .BoolOp .And es _ => !isNil l && okEs B l T es
    | _ => false
  | .or l, T, e => match e with
    | .BoolOp .Or es _ => !isNil l && okEs B l T es
    | _ => false
  | .cmp o a b, T, e => match e with
    | .Compare x [op] [y] _ => copIs op o && noSet y && okE B a T x && okE B b T y
    | _ => false
  | .chain o o' a b c, T, e => match e with
    | .Compare x [op, op'] [y, z] _ => copIs op o && copIs op' o' && noSet z && okE B a T x && okE B b T y && okE B c T z
    | _ => false
  | .ite c a b, T, e => match e with
    | .IfExp z x y _ => okE B c T z && okE B a T x && okE B b T y
    | _ => false
  | .tup l, T, e => match e with
    | .Tuple es _ _ => okEs B l T es
    | _ => false
  | .lst own l, T, e => match e with
    | .List es _ => okEs B l T es
    | _ => false
  | .dic, T, e => match e with
    | .Dict ks vs _ => isNil ks && isNil vs
    | _ => false
  | .idx a i, T, e => match e with
    | .Subscript x y _ => noSlice y && okE B a T x && okE B i T y
    | _ => false
  | .slc own a kl lo kh hi, T, e => match e with
    | .Subscript x (.Slice l h st _) _ => isNone st && okE B a T x && (match kl, l with
      | false, none => true
      | true, some y => okE B lo T y
      | _, _ => false) && (match kh, h with
      | false, none => true
      | true, some y => okE B hi T y
      | _, _ => false)
    | _ => false
  | .fld a f, T, e => match e with
    | .Attribute x n _ => nthS B.nm f n && plainO x && okE B a T x
    | _ => false
  | .call f l ds, T, e => match e with
    | .Call (.Name x _) es ks _ => isNil ks && isNil ds && T.isGl x && nthS B.fns f x && okEs B l T es
    | _ => false
  | .make c l ds, T, e => match e with
    | .Call (.Name x _) es ks _ => isNil ks && isNil ds && T.isGl x && nthS B.cls c x && okEs B l T es
    | _ => false
  | .meth a m l ds, T, e => match e with
    | .Call (.Attribute x n ap) es ks p => isNil ks && isNil ds && nthS B.nm m n && plainO x && Nat.beq ap.endLine p.line && Nat.blt es.length 30 && okE B a T x && okEs B l T es
    | _ => false
  | .bi b own l, T, e => match e with
    | .Call (.Name x _) es ks _ => isNil ks && !isNil es && T.isGl x && eqS x (biS b) && okEs B l T es
    | _ => false
  | .bm m a l, T, e => match e with
    | .Call (.Attribute x n ap) es ks p => isNil ks && eqS n (bmS m) && plainO x && Nat.beq ap.endLine p.line && Nat.blt es.length 30 && okE B a T x && okEs B l T es
    | _ => false
  | .isi a t, T, e => match e with
    | .Call (.Name x _) [y, .Name z _] ks _ => isNil ks && T.isGl x && T.isGl z && eqS x "isinstance" && eqS z (tyS t) && noStar y && okE B a T y
    | _ => false
  | .comp own elt t tt it l cs, T, e => match e with
    | .ListComp el gs scope _ => (match gs, ownOf T.N t with
      | [⟨tg, iter, ifs, as⟩], some ow => decide (as = 0) && blkC T.N T.sc scope ow && noSet iter && okTg (T.blk scope) t tt tg && (match it with
        | .seq => okEs B l T [iter]
        | .range => (match iter with
          | .Call (.Name x _) es ks _ => isNil ks && T.isGl x && eqS x "range" && (Nat.beq es.length 1 || Nat.beq es.length 2) && okEs B l T es
          | _ => false)
        | _ => false) && Nat.ble ifs.length 1 && okEs B cs (T.blk scope) ifs && okE B elt (T.blk scope) el
      | _, _ => false)
    | _ => false
  | .bad, T, e => true
def okEs (B : Base) : List VI.E → Tab → List Expr → Bool
  | [], T, es => isNil es
  | t :: ts, T, es => match es with
    | e :: r => noStar e && okE B t T e && okEs B ts T r
    | [] => false
end
end VIS
end

section
set_option Elab.async false
set_option linter.all false
set_option maxRecDepth 100000
set_option maxHeartbeats 1000000
namespace VIS
open PySem PySem.Spec PyProof.Rows L2
def bltN : List Str := ["len", "int", "tuple", "list", "min", "max", "sum", "sorted", "all", "any", "abs", "ord", "isinstance", "bool", "str", "dict", "range", "zip"]
/-- what the module gives -/
structure Env1 (B : Base) (G : Nms) (P : VI.Prog) (cl : Nat → List VI.D → VI.M VI.D) (prog : Program) (wd : World) (K : PySem.W.Frag) (mg : Str → Option Value) (base : Heap) (k : Nat) : Prop where
  cst : ∀ x d, (x, d) ∈ B.cst → (x == ("__debug__" : Str)) = false ∧ ∃ v u, mg x = some u ∧ RelV v u ∧ ∀ w, VR K w d v
  fns : ∀ f x, B.fns[f]? = some x → (x == ("__debug__" : Str)) = false ∧ ∃ a, mg x = some (.ref a) ∧ FnF G prog wd K mg base k a (cl f)
  cls : ∀ c x, B.cls[c]? = some x → (x == ("__debug__" : Str)) = false ∧ mg x = some (.ref (G.cls c)) ∧ ∃ kc, P.cls[c]? = some kc ∧ MkF G prog wd K mg base k (G.cls c) (cl kc.init)
  mth : ∀ c m f, P.meth c m = some f → MtF G prog wd K mg base k (G.cls c) (G.nm m) (cl f)
  fld : FldOk G K P.fld
  nms : ∀ f x, B.nm[f]? = some x → x = G.nm f
  blt : ∀ x ∈ bltN, mg x = none
/-- a body that runs -/
structure Good (T : Tab) (k : Nat) (X : Cx) : Prop where
  calm : X.calm = true
  N : X.N = T.N
  nd : X.N.Nodup
  kind : X.env.scope.kind = .function
  sc : X.env.scope = T.sc
  fn : ∀ x, T.fnB x = true → X.fn x = true
  nam : ∀ x ∈ X.N, (x == ("__debug__" : Str)) = false ∧ (x == ("__classdict__" : Str)) = false
  own : PassesOwn (model X.prog X.w) X.A X.env X.xe
  room : Room (k + 1) X.A
section
variable {T : Tab} {k : Nat} {X : Cx}
theorem Good.u65 (g : Good T k X) : X.A.units + 65 < cLine := by have := g.room.un; omega
theorem Good.u1 (g : Good T k X) : X.A.units + 1 < cLine := by have := g.room.un; omega
theorem Good.at_ (g : Good T k X) {i : Nat} {x : Str} (h : T.at_ i x = true) : X.N[i]? = some x := by
  unfold Tab.at_ at h
  rw [g.N]
  split at h
  · rename_i y e
    rw [e, eqS_eq h]
  · cases h
theorem Good.kd (g : Good T k X) (x : Str) : X.env.scope.names.lookup x = T.kd x := by
  rw [g.sc, Tab.kd, kindIn_eq]
theorem isVis_or {o : Option NameKind} (h : isVis o = true) : o = some .local ∨ o = some .cell ∨ o = some .free := by
  unfold isVis at h
  split at h <;> first | exact .inl rfl | exact .inr (.inl rfl) | exact .inr (.inr rfl) | cases h
theorem isLocal_eq {o : Option NameKind} (h : isLocal o = true) : o = some .local := by
  unfold isLocal at h
  split at h <;> first | rfl | cases h
theorem isCell_eq {o : Option NameKind} (h : isCell o = true) : o = some .cell := by
  unfold isCell at h
  split at h <;> first | rfl | cases h
theorem isGlob_eq {o : Option NameKind} (h : isGlob o = true) : o = some .globalImplicit := by
  unfold isGlob at h
  split at h <;> first | rfl | cases h
theorem Good.slot (g : Good T k X) {i : Nat} {x : Str} (h : T.isSlot i x = true) : X.N[i]? = some x ∧ Vis X.env.scope x ∧ (x == ("__debug__" : Str)) = false ∧ (x == ("__classdict__" : Str)) = false := by
  unfold Tab.isSlot at h
  rw [Bool.and_eq_true] at h
  have h1 := g.at_ h.1
  refine ⟨h1, ?_, g.nam x (List.mem_of_getElem? h1)⟩
  unfold Vis
  rw [g.kd]
  exact isVis_or h.2
theorem Good.sto (g : Good T k X) {i : Nat} {x : Str} (h : T.isSto i x = true) : X.N[i]? = some x ∧ L2.Loc X.env.scope x ∧ (X.fn x = true ∨ X.env.scope.names.lookup x = some .local) := by
  unfold Tab.isSto at h
  simp only [Bool.and_eq_true, Bool.or_eq_true] at h
  refine ⟨g.at_ h.1, ?_⟩
  unfold L2.Loc
  rw [g.kd]
  rcases h.2 with e | ⟨e, e2⟩
  · have := isLocal_eq e
    exact ⟨.inl this, .inr this⟩
  · exact ⟨.inr (isCell_eq e), .inl (g.fn x e2)⟩
theorem Good.gl (g : Good T k X) {x : Str} (h : T.isGl x = true) : Gl X x := by
  have e := isGlob_eq h
  unfold Gl
  show X.env.scope.names.lookup x = _
  rw [g.kd]
  exact e
theorem Good.blk (g : Good T k X) {s : Shared} {H : Hp} {C : Addr} {cl : List (Str × Addr)} {fp : List Addr} {scope : Scope} (hk : scope.kind = .function) : Good (T.blk scope) k (X.blk s H scope (compEnvC scope cl C X.env) fp) := by
  refine ⟨g.calm, g.N, g.nd, hk, ?_, fun x h => ?_, g.nam, PassesOwn.never, g.room⟩
  · show relS scope X.env.scope = relS scope T.sc
    rw [g.sc]
  · have h : isCell (kindIn scope.names x) = true := h
    have e := isCell_eq h
    rw [kindIn_eq] at e
    show (scope.names.lookup x == some .cell) = true
    rw [e]
    rfl
end
theorem cst_any {l : List (Str × VI.D)} {x : Str} {d : VI.D} (h : (l.any fun p => eqS p.1 x && eqD p.2 d) = true) : (x, d) ∈ l := by
  rw [List.any_eq_true] at h
  obtain ⟨⟨y, e⟩, hm, h⟩ := h
  rw [Bool.and_eq_true] at h
  have e1 : y = x := eqS_eq h.1
  have e2 : e = d := eqD_eq h.2
  subst e1 e2
  exact hm
section
variable {B : Base} {G : Nms} {P : VI.Prog} {cl : Nat → List VI.D → VI.M VI.D} {k : Nat}
theorem c_ok {X : Cx} {T : Tab} (E : Env1 B G P cl X.prog X.w X.K X.mg X.base k) (g : Good T k X) {d : VI.D} {e : Expr} (h : okC B T d e = true) : PE X e (rdE G X.K fun _ => VI.ret d) ∧ PT X e (rdT G X.K (tst fun _ => VI.ret d)) := by
  cases e with
  | Constant c j p =>
    have key : ∀ {v : V}, PE X (.Constant c j p) (tC v) → (∀ w, VR X.K w d v) → PE X (.Constant c j p) (rdE G X.K fun _ => VI.ret d) ∧ PT X (.Constant c j p) (rdT G X.K (tst fun _ => VI.ret d)) := fun h1 h2 =>
      ⟨r_val h1 h2, t_val (fun _ => rfl) (r_val h1 h2)⟩
    unfold okC at h
    simp only at h
    split at h
    · exact key pe_non fun w => .nonI
    · exact key pe_bl fun w => .blI
    · exact key pe_bl fun w => .blI
    · rename_i i j
      rw [decide_eq_true_eq] at h
      subst h
      exact key pe_int fun w => .intI
    · rename_i s t
      have e := eqL_eq h
      have e2 : s = toS t := by
        cases s
        unfold toS
        congr 1
        rw [← e]
      refine key pe_str fun w => ?_
      rw [e2]
      exact .strI
    · cases h
  | Name x p =>
    unfold okC at h
    simp only [Bool.and_eq_true] at h
    obtain ⟨hd, v, u, h1, h2, h3⟩ := E.cst x d (cst_any h.2)
    have := r_val (G := G) (pe_glob (pos := p) (g.gl h.1) h1 h2 hd) h3
    exact ⟨this, t_val (fun _ => rfl) this⟩
  | _ => cases h
theorem bi_mem (b : VI.Bi) : biS b ∈ bltN := by cases b <;> decide +kernel
theorem ty_mem (t : VI.Ty) : tyS t ∈ bltN := by cases t <;> decide +kernel
theorem isi_mem : ("isinstance" : Str) ∈ bltN := by decide +kernel
theorem rng_mem : ("range" : Str) ∈ bltN := by decide +kernel
theorem okEs_len : ∀ {l : List VI.E} {T : Tab} {es : List Expr}, okEs B l T es = true → es.length = l.length ∧ es.all noStar = true
  | [], T, es, h => by
    unfold okEs at h
    rw [isNil_eq h]
    exact ⟨rfl, rfl⟩
  | t :: ts, T, [], h => by
    unfold okEs at h
    cases h
  | t :: ts, T, e :: r, h => by
    unfold okEs at h
    simp only [Bool.and_eq_true] at h
    obtain ⟨h1, h2⟩ := okEs_len h.2
    refine ⟨by rw [List.length_cons, List.length_cons, h1], ?_⟩
    rw [List.all_cons, h.1.1, h2]
    rfl
theorem evalEs_len {l : List VI.E} : ∀ {ρ : VI.Env} {s s' : VI.St} {ds : List VI.D}, VI.evalEs P cl l ρ s = some (ds, s') → ds.length = l.length := by
  induction l with
  | nil => intro ρ s s' ds h; rw [VI.evalEs] at h; cases h; rfl
  | cons t ts ih =>
    intro ρ s s' ds h
    rw [VI.evalEs] at h
    obtain ⟨x, s1, e1, q1⟩ := bnd_some.mp h
    obtain ⟨xs, s2, e2, q2⟩ := bnd_some.mp q1
    cases q2
    rw [List.length_cons, List.length_cons, ih e2]
/-! ### targets of comprehensions -/
theorem ns_ok {X : Cx} {T : Tab} (g : Good T k X) : ∀ {t : List Nat} {es : List Expr}, okTg.okNs T t es = true → PGs X es (gNames t) ∧ es.length = t.length
  | [], [], _ => ⟨pgs_nil, rfl⟩
  | [], _ :: _, h => by simp [okTg.okNs] at h
  | i :: t, [], h => by simp [okTg.okNs] at h
  | i :: t, e :: es, h => by
    cases e with
    | Name x p =>
      simp only [okTg.okNs, Bool.and_eq_true] at h
      obtain ⟨h1, h2, h3⟩ := g.sto h.1
      obtain ⟨q1, q2⟩ := ns_ok g h.2
      refine ⟨pgs_cons (pg_name g.nd h1 h2 h3) q1, ?_⟩
      rw [List.length_cons, List.length_cons, q2]
    | _ => simp [okTg.okNs] at h
theorem tg_ok {X : Cx} {T : Tab} (g : Good T k X) {t : List Nat} {tt : Bool} {e : Expr} (h : okTg T t tt e = true) : PG X e (gT X.K t tt) := by
  unfold okTg at h
  split at h
  · obtain ⟨h1, h2, h3⟩ := g.sto h
    exact pg_name g.nd h1 h2 h3
  · rename_i t es kx p
    rw [Bool.and_eq_true] at h
    obtain ⟨q1, q2⟩ := ns_ok g h.2
    obtain ⟨l1, l2⟩ := assign_len (env := X.env) h.1
    have := pg_tup (k := kx) (pos := p) g.calm q1 (l1.trans q2) l2
    exact this
  · cases h
theorem ownOf_map {N : List Str} : ∀ {t : List Nat} {l : List (Str × Nat)}, ownOf N t = some l → l.map (·.2) = t
  | [], l, h => by cases h; rfl
  | i :: r, l, h => by
    unfold ownOf at h
    split at h
    · rename_i x l' e1 e2
      cases h
      rw [List.map_cons, ownOf_map e2]
    · cases h
end
end VIS
end

section
set_option Elab.async false
set_option linter.all false
set_option maxRecDepth 100000
set_option maxHeartbeats 4000000
namespace VIS
open PySem PySem.Spec PyProof.Rows L2
section
variable {B : Base} {G : Nms} {P : VI.Prog} {cl : Nat → List VI.D → VI.M VI.D} {k : Nat}
/-- an expression and its term -/
def BothE (G : Nms) (X : Cx) (e : Expr) (f : VI.Env → VI.M VI.D) : Prop := PE X e (rdE G X.K f) ∧ PT X e (rdT G X.K (tst f))
theorem both {X : Cx} {e : Expr} {f : VI.Env → VI.M VI.D} (h : PE X e (rdE G X.K f)) (he : ∀ whole, isTrue e X.env whole = (do let v ← whole; standAt e.pos; holding [v] (truthy v))) : BothE G X e f := ⟨h, t_val he h⟩
theorem BothE.eq {X : Cx} {e : Expr} {f f' : VI.Env → VI.M VI.D} (h : BothE G X e f) (q : f' = f) : BothE G X e f' := by rw [q]; exact h
theorem sub_val {X : Cx} {a b : Expr} {p : Pos} {f : VI.Env → VI.M VI.D} (h : PE X (.Subscript a b p) (rdE G X.K f)) : BothE G X (.Subscript a b p) f := both h fun _ => rfl
theorem blt1 {l : List Expr} (h : Nat.blt l.length 30 = true) : l.length < 30 := by
  have := Nat.le_of_ble_eq_true h
  omega
theorem beqN {a b : Nat} (h : Nat.beq a b = true) : (a == b) = true := by
  rw [Nat.eq_of_beq_eq_true h]
  simp
theorem t_ite {X : Cx} {a b c : Expr} {pos : Pos} {ea eb ec : VI.Env → VI.M VI.D} (hc : PT X c (rdT G X.K (tst ec))) (ha : PT X a (rdT G X.K (tst ea))) (hb : PT X b (rdT G X.K (tst eb))) : PT X (.IfExp c a b pos) (rdT G X.K (tst (iteM ec ea eb))) := by
  refine ⟨fun pins s σ H Q I ⟨w, st, ρ, at_, sr, e, d, st', eq, q⟩ => ?_⟩
  obtain ⟨y, s0, e0, q0⟩ := bnd_some.mp eq
  obtain ⟨x, s1, e1, q1⟩ := bnd_some.mp e0
  obtain ⟨k, s2, e2, q2⟩ := bnd_some.mp q1
  clear eq e0 q1
  show wpAny (model X.prog X.w) X.A (do if ← isTrue c X.env (eval c X.env) then isTrue a X.env (eval a X.env) else isTrue b X.env (eval b X.env)) (TP X pins σ Q) X.xe s
  refine wpAny_bind (thn (hc.run pins s σ H (fun r H1 => r = k ∧ ∃ w1, Step w w1 H H1 ∧ StR G X.K w1 s2) I ⟨w, st, ρ, at_, sr, e, k, s2, bnd_some.mpr ⟨x, s1, e1, e2⟩, fun w1 H1 p1 r1 => ⟨rfl, w1, p1, r1⟩⟩) fun r t1 ⟨H1, I1, hr, w1, p1, r1⟩ => ?_)
  subst hr
  cases r with
  | true =>
    rw [if_pos rfl] at q2 ⊢
    exact ha.run pins t1 σ H1 Q I1 ⟨w1, s2, ρ, p1.at_, r1, e.mono p1.le, d, st', bnd_some.mpr ⟨y, s0, q2, q0⟩, fun w2 H2 p2 => q w2 H2 (p1.trans p2)⟩
  | false =>
    rw [if_neg Bool.false_ne_true] at q2 ⊢
    exact hb.run pins t1 σ H1 Q I1 ⟨w1, s2, ρ, p1.at_, r1, e.mono p1.le, d, st', bnd_some.mpr ⟨y, s0, q2, q0⟩, fun w2 H2 p2 => q w2 H2 (p1.trans p2)⟩
/-- tests of a clause -/
theorem ts_ok {X : Cx} {ifs : List Expr} {cs : List VI.E} (hl : ifs.length ≤ 1) (hc : cs.length = ifs.length) (h : ∀ (c : Expr) (t : VI.E), ifs = [c] → cs = [t] → PT X c (rdT G X.K (tst (VI.evalE P cl t)))) : PTs X ifs (rdT G X.K (VI.evalTs P cl cs)) := by
  match ifs, cs, hl, hc, h with
  | [], [], _, _, _ =>
    refine ⟨fun pins s σ H Q I ⟨w, st, ρ, at_, sr, er, b, st', eq, q⟩ => pts_nil.run pins s σ H Q I ?_⟩
    rw [VI.evalTs] at eq
    cases eq
    exact q w H at_.refl sr
  | [c], [t], _, _, h =>
    refine ⟨fun pins s σ H Q I ⟨w, st, ρ, at_, sr, er, b, st', eq, q⟩ => (pts_one (h c t rfl rfl)).run pins s σ H Q I ?_⟩
    rw [VI.evalTs] at eq
    obtain ⟨x, s1, e1, q1⟩ := bnd_some.mp eq
    obtain ⟨r, s2, e2, q2⟩ := bnd_some.mp q1
    clear eq q1
    have q3 : b = r ∧ st' = s2 := by
      cases r with
      | true =>
        rw [if_pos rfl, VI.evalTs] at q2
        cases q2
        exact ⟨rfl, rfl⟩
      | false =>
        rw [if_neg Bool.false_ne_true] at q2
        cases q2
        exact ⟨rfl, rfl⟩
    obtain ⟨rfl, rfl⟩ := q3
    exact ⟨w, st, ρ, at_, sr, er, b, st', bnd_some.mpr ⟨x, s1, e1, e2⟩, q⟩
  | _ :: _ :: _, _, hl, _, _ => simp at hl
  | [], _ :: _, _, hc, _ => simp at hc
  | [_], [], _, hc, _ => simp at hc
  | [_], _ :: _ :: _, _, hc, _ => simp at hc
/-! ### comprehensions -/
structure CompH (G : Nms) (X : Cx) (tg iter el : Expr) (ifs : List Expr) (scope : Scope) (ow : List (Str × Nat)) (ei : VI.Env → VI.M (List VI.D × List (Nat × VI.Cell))) (t : List Nat) (tt : Bool) (et : VI.Env → VI.M Bool) (ee : VI.Env → VI.M VI.D) : Prop where
  hi : PI X tg iter (rdI G X.K ei)
  ok : BlkOk X.N X.env.scope scope ow
  map : ow.map (·.2) = t
  hg : ∀ (s : Shared) (H : Hp) (C : Addr) (cl : List (Str × Addr)) (fp : List Addr), PG (X.blk s H scope (compEnvC scope cl C X.env) fp) tg (gT X.K t tt)
  ht : ∀ (s : Shared) (H : Hp) (C : Addr) (cl : List (Str × Addr)) (fp : List Addr), PTs (X.blk s H scope (compEnvC scope cl C X.env) fp) ifs (rdT G X.K et)
  he : ∀ (s : Shared) (H : Hp) (C : Addr) (cl : List (Str × Addr)) (fp : List Addr), PE (X.blk s H scope (compEnvC scope cl C X.env) fp) el (rdE G X.K ee)
  hs : noSet iter = true
variable (B G P cl k) in
abbrev IhE (t : VI.E) : Prop := ∀ {T : Tab} {X : Cx} {e : Expr}, Env1 B G P cl X.prog X.w X.K X.mg X.base k → Good T k X → okE B t T e = true → BothE G X e (VI.evalE P cl t)
variable (B G P cl k) in
abbrev IhL (l : List VI.E) : Prop := ∀ {T : Tab} {X : Cx} {es : List Expr}, Env1 B G P cl X.prog X.w X.K X.mg X.base k → Good T k X → okEs B l T es = true → PA X es (rdA G X.K (VI.evalEs P cl l))
variable (B G P cl k) in
abbrev IhO (l : List VI.E) : Prop := ∀ {T : Tab} {X : Cx} {e : Expr}, Env1 B G P cl X.prog X.w X.K X.mg X.base k → Good T k X → okEs B l T [e] = true → ∃ a, l = [a] ∧ BothE G X e (VI.evalE P cl a)
noncomputable def itM (P : VI.Prog) (cl : Nat → List VI.D → VI.M VI.D) (it : VI.It) (l : List VI.E) : VI.Env → VI.M (List VI.D × List (Nat × VI.Cell)) := fun ρ => VI.bnd (VI.evalEs P cl l ρ) fun vs => VI.iterM it vs
theorem seq_ok {l : List VI.E} (i3 : IhO B G P cl k l) {T : Tab} {X : Cx} {tg iter : Expr} (E : Env1 B G P cl X.prog X.w X.K X.mg X.base k) (g : Good T k X) (h : okEs B l T [iter] = true) : PI X tg iter (rdI G X.K (itM P cl .seq l)) := by
  obtain ⟨a, rfl, ha⟩ := i3 E g h
  have := p_seq (tg := tg) ha.1
  have e1 : itM P cl .seq [a] = fun ρ => VI.bnd (VI.bnd (VI.evalE P cl a ρ) fun x => VI.bnd (VI.ret []) fun xs => VI.ret (x :: xs)) fun vs => VI.iterM .seq vs := by
    funext ρ
    unfold itM
    rw [VI.evalEs, VI.evalEs]
  rw [e1]
  exact this
theorem rng_ok {l : List VI.E} (i2 : IhL B G P cl k l) {T : Tab} {X : Cx} {tg : Expr} {x : Str} {p pos : Pos} {es : List Expr} (E : Env1 B G P cl X.prog X.w X.K X.mg X.base k) (g : Good T k X) (h1 : T.isGl x = true) (h2 : eqS x "range" = true) (h3 : (Nat.beq es.length 1 || Nat.beq es.length 2) = true) (h4 : okEs B l T es = true) :
    PI X tg (.Call (.Name x p) es [] pos) (rdI G X.K (itM P cl .range l)) := by
  have hx := eqS_eq h2
  have hm : X.mg x = none := by rw [hx]; exact E.blt _ rng_mem
  have hA := i2 E g h4
  obtain ⟨hl, hn⟩ := okEs_len h4
  rw [Bool.or_eq_true] at h3
  match es, h3, hA, hl, hn with
  | [a], _, hA, hl, hn =>
    simp only [List.all_cons, List.all_nil, Bool.and_true] at hn
    exact p_range1 hx (g.gl h1) hm hn hA fun ρ s ds s' e => by rw [evalEs_len e, ← hl]; rfl
  | [a, b], _, hA, hl, hn =>
    simp only [List.all_cons, List.all_nil, Bool.and_true, Bool.and_eq_true] at hn
    exact p_range2 hx (g.gl h1) hm hn.1 hn.2 hA fun ρ s ds s' e => by rw [evalEs_len e, ← hl]; rfl
  | [], h3, _, _, _ => simp at h3
  | _ :: _ :: _ :: _, h3, _, _, _ => simp at h3
theorem comp_ok {own tt : Bool} {elt : VI.E} {t : List Nat} {it : VI.It} {l cs : List VI.E} (i1 : IhE B G P cl k elt) (i2 : IhL B G P cl k l) (i3 : IhO B G P cl k l) (i4 : IhO B G P cl k cs) {T : Tab} {X : Cx} {e : Expr} (E : Env1 B G P cl X.prog X.w X.K X.mg X.base k) (g : Good T k X)
    (h : okE B (.comp own elt t tt it l cs) T e = true) : ∃ el tg iter ifs scope pos ow, e = .ListComp el [⟨tg, iter, ifs, 0⟩] scope pos ∧ CompH G X tg iter el ifs scope ow (itM P cl it l) t tt (VI.evalTs P cl cs) (VI.evalE P cl elt) := by
  unfold okE at h
  split at h
  · rename_i el gs scope pos
    split at h
    · rename_i tg iter ifs as ow how
      simp only [Bool.and_eq_true] at h
      obtain ⟨⟨⟨⟨⟨⟨⟨h1, h2⟩, h3⟩, h4⟩, h5⟩, h6⟩, h7⟩, h8⟩ := h
      rw [decide_eq_true_eq] at h1
      subst h1
      have hb : BlkOk X.N X.env.scope scope ow := by
        rw [g.N, g.sc]
        exact blkOk_by h2
      have gb := fun (s : Shared) (H : Hp) (C : Addr) (cl : List (Str × Addr)) (fp : List Addr) => g.blk (s := s) (H := H) (C := C) (cl := cl) (fp := fp) hb.kind
      refine ⟨el, tg, iter, ifs, scope, pos, ow, rfl, ⟨?_, hb, ownOf_map how, fun s H C c fp => tg_ok (gb s H C c fp) h4, fun s H C c fp => ?_, fun s H C c fp => (i1 (X := X.blk s H scope (compEnvC scope c C X.env) fp) E (gb s H C c fp) h8).1, h3⟩⟩
      · cases it with
        | seq => exact seq_ok i3 E g h5
        | range =>
          simp only at h5
          split at h5
          · simp only [Bool.and_eq_true] at h5
            obtain ⟨⟨⟨⟨q1, q2⟩, q3⟩, q4⟩, q5⟩ := h5
            cases isNil_eq q1
            exact rng_ok i2 E g q2 q3 q4 q5
          · cases h5
        | _ => cases h5
      · refine ts_ok (Nat.le_of_ble_eq_true h6) (okEs_len h7).1.symm fun c0 u e1 e2 => ?_
        subst e1
        obtain ⟨a, ea, hp⟩ := i4 (X := X.blk s H scope (compEnvC scope c C X.env) fp) E (gb s H C c fp) h7
        rw [e2] at ea
        cases ea
        exact hp.2
    · cases h
  · cases h
theorem r_comp {X : Cx} (g : X.calm = true) (hN : X.N.Nodup) {tg iter el : Expr} {ifs : List Expr} {scope : Scope} {pos : Pos} {ow : List (Str × Nat)} {ei : VI.Env → VI.M (List VI.D × List (Nat × VI.Cell))} {t : List Nat} {tt own : Bool} {et : VI.Env → VI.M Bool} {ee : VI.Env → VI.M VI.D}
    (h : CompH G X tg iter el ifs scope ow ei t tt et ee) : PE X (.ListComp el [⟨tg, iter, ifs, 0⟩] scope pos) (rdE G X.K (compM own ei t tt et ee)) := by
  refine PE.imp (pe_lc g hN h.hi h.ok h.hg h.ht h.he (folded_ok h.hs)) fun σ H Q q => ?_
  rw [h.map]
  exact comp_rd q
theorem s_comp {X : Cx} (g : X.calm = true) (hN : X.N.Nodup) {tg iter el : Expr} {ifs : List Expr} {scope : Scope} {pos spos py : Pos} {ow : List (Str × Nat)} {ei : VI.Env → VI.M (List VI.D × List (Nat × VI.Cell))} {t : List Nat} {tt own : Bool} {et : VI.Env → VI.M Bool} {ee : VI.Env → VI.M VI.D} {y : Str} {i : Nat}
    (h : CompH G X tg iter el ifs scope ow ei t tt et ee) (hk : X.env.scope.kind = .function) (hy : X.N[i]? = some y) (hyl : X.env.scope.names.lookup y = some .local) (hl : (py.line == pos.line) = true) (ha : (scope.names.any fun (n, k) => n == y && (k == .local || k == .cell)) = false) :
    PS X (.Assign [.Name y py] (.ListComp el [⟨tg, iter, ifs, 0⟩] scope pos) spos) (rdS G X.K (asgM (compM own ei t tt et ee) fun d ρ => VI.ret (ρ.set i (some d)))) := by
  refine PS.imp (ps_setLc g hN hy hyl (sw_true hk hyl hl ha) h.hi h.ok h.hg h.ht h.he (folded_ok h.hs)) fun D σ H q => ?_
  rw [h.map]
  obtain ⟨w, st, ρ, at_, sr, e, r, st', eq, q⟩ := asg_rd (D := D) q
  refine comp_rd ⟨w, st, ρ, at_, sr, e, r, st', eq, fun w' H' v p s1 k1 => ?_⟩
  obtain ⟨w2, st2, ρ2, d2, at2, sr2, er2, k2, ρ3, st3, eq3, q3⟩ := q w' H' v p s1 k1
  cases eq3
  exact q3 w2 H' _ at2.refl sr2 (er2.set k2)
theorem evalE_comp {own tt : Bool} {elt : VI.E} {t : List Nat} {it : VI.It} {l cs : List VI.E} : VI.evalE P cl (.comp own elt t tt it l cs) = compM own (itM P cl it l) t tt (VI.evalTs P cl cs) (VI.evalE P cl elt) := by
  funext ρ
  rw [VI.evalE]
  funext s
  unfold compM itM VI.bnd
  cases VI.evalEs P cl l ρ s <;> rfl
mutual
theorem okE_ok : ∀ (t : VI.E) {T : Tab} {X : Cx} {e : Expr}, Env1 B G P cl X.prog X.w X.K X.mg X.base k → Good T k X → okE B t T e = true → BothE G X e (VI.evalE P cl t)
  | .slot i, T, X, e, E, g, h => by
    unfold okE at h
    split at h
    · obtain ⟨h1, h2, h3, h4⟩ := g.slot h
      exact (both (r_slot (G := G) h1 h2 h3 h4) fun _ => rfl).eq (by funext ρ; rw [VI.evalE])
    · cases h
  | .cst d, T, X, e, E, g, h => by
    unfold okE at h
    exact BothE.eq (c_ok E g h) (by funext ρ; rw [VI.evalE])
  | .bop o own a b, T, X, e, E, g, h => by
    unfold okE at h
    split at h
    · simp only [Bool.and_eq_true] at h
      obtain ⟨⟨h1, h2⟩, h3⟩ := h
      rw [bopIs_eq h1]
      exact (both (r_bop o own (okE_ok a E g h2).1 (okE_ok b E g h3).1) fun _ => rfl).eq (by funext ρ; rw [VI.evalE])
    · cases h
  | .neg a, T, X, e, E, g, h => by
    unfold okE at h
    split at h
    · exact (both (r_neg (okE_ok a E g h).1) fun _ => rfl).eq (by funext ρ; rw [VI.evalE] <;> rfl)
    · cases h
  | .not a, T, X, e, E, g, h => by
    unfold okE at h
    split at h
    · have := okE_ok a E g h
      exact BothE.eq ⟨r_not this.1, t_not this.2⟩ (by funext ρ; rw [VI.evalE])
    · cases h
  | .and l, T, X, e, E, g, h => by
    unfold okE at h
    split at h
    · simp only [Bool.and_eq_true, Bool.not_eq_true'] at h
      obtain ⟨h1, h2⟩ := okAnd_ok l E g h.1 h.2
      exact BothE.eq ⟨h1, h2.pt⟩ (by funext ρ; rw [VI.evalE])
    · cases h
  | .or l, T, X, e, E, g, h => by
    unfold okE at h
    split at h
    · simp only [Bool.and_eq_true, Bool.not_eq_true'] at h
      obtain ⟨h1, h2⟩ := okOr_ok l E g h.1 h.2
      exact BothE.eq ⟨h1, h2.pt⟩ (by funext ρ; rw [VI.evalE])
    · cases h
  | .cmp o a b, T, X, e, E, g, h => by
    unfold okE at h
    split at h
    · simp only [Bool.and_eq_true] at h
      obtain ⟨⟨⟨h1, h2⟩, h3⟩, h4⟩ := h
      rw [copIs_eq h1]
      have ha := okE_ok a E g h3
      have hb := okE_ok b E g h4
      exact BothE.eq ⟨r_cmp g.u65 o h2 ha.1 hb.1, t_cmp g.u65 o h2 ha.1 hb.1⟩ (by funext ρ; rw [VI.evalE]; rfl)
    · cases h
  | .chain o o' a b c, T, X, e, E, g, h => by
    unfold okE at h
    split at h
    · simp only [Bool.and_eq_true] at h
      obtain ⟨⟨⟨⟨⟨h1, h2⟩, h3⟩, h4⟩, h5⟩, h6⟩ := h
      rw [copIs_eq h1, copIs_eq h2]
      have ha := okE_ok a E g h4
      have hb := okE_ok b E g h5
      have hc := okE_ok c E g h6
      exact BothE.eq ⟨r_chain g.u65 o o' h3 ha.1 hb.1 hc.1, t_chain g.u65 o o' h3 ha.1 hb.1 hc.1⟩ (by funext ρ; rw [VI.evalE]; rfl)
    · cases h
  | .ite c a b, T, X, e, E, g, h => by
    unfold okE at h
    split at h
    · simp only [Bool.and_eq_true] at h
      obtain ⟨⟨h1, h2⟩, h3⟩ := h
      have hc := okE_ok c E g h1
      have ha := okE_ok a E g h2
      have hb := okE_ok b E g h3
      exact BothE.eq ⟨r_ite hc.2 ha.1 hb.1, t_ite hc.2 ha.2 hb.2⟩ (by funext ρ; rw [VI.evalE]; rfl)
    · cases h
  | .tup l, T, X, e, E, g, h => by
    unfold okE at h
    split at h
    · exact (both (r_tup (okEs_ok l E g h)) fun _ => rfl).eq (by funext ρ; rw [VI.evalE])
    · cases h
  | .lst own l, T, X, e, E, g, h => by
    unfold okE at h
    split at h
    · exact (both (r_lst own (okEs_ok l E g h)) fun _ => rfl).eq (by funext ρ; rw [VI.evalE])
    · cases h
  | .dic, T, X, e, E, g, h => by
    unfold okE at h
    split at h
    · simp only [Bool.and_eq_true] at h
      obtain ⟨h1, h2⟩ := h
      cases isNil_eq h1
      cases isNil_eq h2
      exact (both (r_dic (G := G)) fun _ => rfl).eq (by funext ρ; rw [VI.evalE])
    · cases h
  | .idx a i, T, X, e, E, g, h => by
    unfold okE at h
    split at h
    · simp only [Bool.and_eq_true] at h
      obtain ⟨⟨h1, h2⟩, h3⟩ := h
      exact (sub_val (r_idx g.u1 h1 (okE_ok a E g h2).1 (okE_ok i E g h3).1)).eq (by funext ρ; rw [VI.evalE])
    · cases h
  | .slc own a kl lo kh hi, T, X, e, E, g, h => by
    unfold okE at h
    split at h
    · rename_i x l u st p1 p2
      simp only [Bool.and_eq_true] at h
      obtain ⟨⟨⟨h1, h2⟩, h3⟩, h4⟩ := h
      have hs : st = none := by cases st with
        | none => rfl
        | some _ => cases h1
      subst hs
      have hl : PO X l (rdO G X.K (partM kl (VI.evalE P cl lo))) := by
        cases kl <;> cases l <;> first | (cases h3; done) | exact o_none | exact o_some (okE_ok lo E g h3).1
      have hh : PO X u (rdO G X.K (partM kh (VI.evalE P cl hi))) := by
        cases kh <;> cases u <;> first | (cases h4; done) | exact o_none | exact o_some (okE_ok hi E g h4).1
      exact (sub_val (r_slc own (okE_ok a E g h2).1 hl hh)).eq (by funext ρ; rw [VI.evalE]; rfl)
    · cases h
  | .fld a f, T, X, e, E, g, h => by
    unfold okE at h
    split at h
    · simp only [Bool.and_eq_true] at h
      obtain ⟨⟨h1, h2⟩, h3⟩ := h
      exact (both (r_fld E.fld (E.nms _ _ (nthS_eq h1)) h2 (okE_ok a E g h3).1) fun _ => rfl).eq (by funext ρ; rw [VI.evalE])
    · cases h
  | .call f l ds, T, X, e, E, g, h => by
    unfold okE at h
    split at h
    · rename_i x p es ks p2
      simp only [Bool.and_eq_true] at h
      obtain ⟨⟨⟨⟨h1, h2⟩, h3⟩, h4⟩, h5⟩ := h
      cases isNil_eq h1
      cases isNil_eq h2
      obtain ⟨hd, ad, hm, F⟩ := E.fns _ _ (nthS_eq h4)
      have hA := okEs_ok l E g h5
      have hn := (okEs_len h5).2
      cases es with
      | nil =>
        have hl : l = [] := List.length_eq_zero_iff.mp (okEs_len h5).1.symm
        subst hl
        exact (both (r_call0 (pos := p2) (p := p) F (g.room.mono (Nat.le_succ k)) (g.gl h3) hm hd) fun _ => rfl).eq (by funext ρ; rw [VI.evalE, VI.evalEs]; simp only [List.append_nil])
      | cons a es =>
        exact (both (r_call (pos := p2) (p := p) F (g.room.mono (Nat.le_succ k)) (g.gl h3) hm hd hn hA) fun _ => rfl).eq (by funext ρ; rw [VI.evalE]; simp only [List.append_nil])
    · cases h
  | .make c l ds, T, X, e, E, g, h => by
    unfold okE at h
    split at h
    · rename_i x p es ks p2
      simp only [Bool.and_eq_true] at h
      obtain ⟨⟨⟨⟨h1, h2⟩, h3⟩, h4⟩, h5⟩ := h
      cases isNil_eq h1
      cases isNil_eq h2
      obtain ⟨hd, hm, kc, hkc, F⟩ := E.cls _ _ (nthS_eq h4)
      have hA := okEs_ok l E g h5
      have hn := (okEs_len h5).2
      cases es with
      | nil =>
        have hl : l = [] := List.length_eq_zero_iff.mp (okEs_len h5).1.symm
        subst hl
        exact (both (r_make0 (pos := p2) (p := p) F g.room (g.gl h3) hm hd) fun _ => rfl).eq (by funext ρ; rw [VI.evalE, VI.evalEs, hkc]; simp only [List.append_nil]; rfl)
      | cons a es =>
        exact (both (r_make (pos := p2) (p := p) F g.room (g.gl h3) hm hd hn hA) fun _ => rfl).eq (by funext ρ; rw [VI.evalE, hkc]; simp only [List.append_nil]; rfl)
    · cases h
  | .meth a m l ds, T, X, e, E, g, h => by
    unfold okE at h
    split at h
    · rename_i x n ap es ks p
      simp only [Bool.and_eq_true] at h
      obtain ⟨⟨⟨⟨⟨⟨⟨h1, h2⟩, h3⟩, h4⟩, h5⟩, h6⟩, h7⟩, h8⟩ := h
      cases isNil_eq h1
      cases isNil_eq h2
      refine (both (r_meth (G := G) P cl m E.fld.inj (fun c f hf => E.mth c m f hf) (g.room.mono (Nat.le_succ k)) (E.nms _ _ (nthS_eq h3)) h4 (okEs_len h8).2 (blt1 h6) (beqN h5) (okE_ok a E g h7).1 (okEs_ok l E g h8) (fun hn ρ => ?_)) fun _ => rfl).eq (by funext ρ; rw [VI.evalE]; simp only [List.append_nil]; rfl)
      have hl : l = [] := List.length_eq_zero_iff.mp (by rw [← (okEs_len h8).1, hn]; rfl)
      subst hl
      rw [VI.evalEs]
    · cases h
  | .bi b own l, T, X, e, E, g, h => by
    unfold okE at h
    split at h
    · rename_i x p es ks p2
      simp only [Bool.and_eq_true, Bool.not_eq_true'] at h
      obtain ⟨⟨⟨⟨h1, h2⟩, h3⟩, h4⟩, h5⟩ := h
      cases isNil_eq h1
      have hx := eqS_eq h4
      cases es with
      | nil => cases h2
      | cons a es =>
        exact (both (r_bi (pos := p2) (p := p) g.calm b own hx (g.gl h3) (by rw [hx]; exact E.blt _ (bi_mem b)) (okEs_len h5).2 (okEs_ok l E g h5)) fun _ => rfl).eq (by funext ρ; rw [VI.evalE])
    · cases h
  | .bm m a l, T, X, e, E, g, h => by
    unfold okE at h
    split at h
    · rename_i x n ap es ks p
      simp only [Bool.and_eq_true] at h
      obtain ⟨⟨⟨⟨⟨⟨h1, h2⟩, h3⟩, h4⟩, h5⟩, h6⟩, h7⟩ := h
      cases isNil_eq h1
      have hn := eqS_eq h2
      cases es with
      | nil =>
        have hl : l = [] := List.length_eq_zero_iff.mp (okEs_len h7).1.symm
        subst hl
        exact (both (r_bm0 g.u1 m hn h3 (beqN h4) (okE_ok a E g h6).1) fun _ => rfl).eq (by funext ρ; rw [VI.evalE, VI.evalEs]; rfl)
      | cons b es =>
        exact (both (r_bm g.u1 m hn h3 (okEs_len h7).2 (blt1 h5) (beqN h4) (okE_ok a E g h6).1 (okEs_ok l E g h7)) fun _ => rfl).eq (by funext ρ; rw [VI.evalE]; rfl)
    · cases h
  | .isi a t, T, X, e, E, g, h => by
    unfold okE at h
    split at h
    · rename_i x p y z p3 ks p2
      simp only [Bool.and_eq_true] at h
      obtain ⟨⟨⟨⟨⟨⟨h1, h2⟩, h3⟩, h4⟩, h5⟩, h6⟩, h7⟩ := h
      cases isNil_eq h1
      have hx := eqS_eq h4
      have hz := eqS_eq h5
      exact (both (r_isi (pos := p2) (p := p) (p2 := p3) t hx (g.gl h2) (by rw [hx]; exact E.blt _ isi_mem) hz (g.gl h3) (by rw [hz]; exact E.blt _ (ty_mem t)) h6 (okE_ok a E g h7).1) fun _ => rfl).eq (by funext ρ; rw [VI.evalE])
    · cases h
  | .comp own elt t tt it l cs, T, X, e, E, g, h => by
    obtain ⟨el, tg, iter, ifs, scope, pos, ow, rfl, hC⟩ := comp_ok (own := own) (tt := tt) (t := t) (it := it) (fun {T X e} => okE_ok elt) (fun {T X es} => okEs_ok l) (fun {T X e} => okOne_ok l) (fun {T X e} => okOne_ok cs) E g h
    exact (both (r_comp g.calm g.nd hC) fun _ => rfl).eq evalE_comp
  | .bad, T, X, e, E, g, h => by
    have e1 : VI.evalE P cl .bad = fun _ => VI.fail := by funext ρ; rw [VI.evalE]
    refine BothE.eq ⟨⟨fun pins s σ H Q I ⟨w, st, ρ, at_, sr, er, d, st', eq, q⟩ => by cases eq⟩, ⟨fun pins s σ H Q I ⟨w, st, ρ, at_, sr, er, d, st', eq, q⟩ => by cases eq⟩⟩ e1
theorem okEs_ok : ∀ (l : List VI.E) {T : Tab} {X : Cx} {es : List Expr}, Env1 B G P cl X.prog X.w X.K X.mg X.base k → Good T k X → okEs B l T es = true → PA X es (rdA G X.K (VI.evalEs P cl l))
  | [], T, X, es, E, g, h => by
    unfold okEs at h
    cases isNil_eq h
    have e1 : VI.evalEs P cl [] = fun _ => VI.ret [] := by funext ρ; rw [VI.evalEs]
    rw [e1]
    exact a_nil
  | t :: ts, T, X, [], E, g, h => by
    unfold okEs at h
    cases h
  | t :: ts, T, X, e :: r, E, g, h => by
    unfold okEs at h
    simp only [Bool.and_eq_true] at h
    have e1 : VI.evalEs P cl (t :: ts) = fun ρ => VI.bnd (VI.evalE P cl t ρ) fun x => VI.bnd (VI.evalEs P cl ts ρ) fun xs => VI.ret (x :: xs) := by funext ρ; rw [VI.evalEs]
    rw [e1]
    exact a_cons h.1.1 (okE_ok t E g h.1.2).1 (okEs_ok ts E g h.2)
theorem okOne_ok : ∀ (l : List VI.E) {T : Tab} {X : Cx} {e : Expr}, Env1 B G P cl X.prog X.w X.K X.mg X.base k → Good T k X → okEs B l T [e] = true → ∃ a, l = [a] ∧ BothE G X e (VI.evalE P cl a)
  | [], T, X, e, E, g, h => by
    unfold okEs at h
    cases h
  | t :: ts, T, X, e, E, g, h => by
    unfold okEs at h
    simp only [Bool.and_eq_true] at h
    have hr : ts = [] := List.length_eq_zero_iff.mp (okEs_len h.2).1.symm
    subst hr
    exact ⟨t, rfl, okE_ok t E g h.1.2⟩
theorem okAnd_ok : ∀ (l : List VI.E) {T : Tab} {X : Cx} {es : List Expr} {pos : Pos}, Env1 B G P cl X.prog X.w X.K X.mg X.base k → Good T k X → isNil l = false → okEs B l T es = true →
    PE X (.BoolOp .And es pos) (rdE G X.K (VI.evalAnd P cl l)) ∧ PW X (.BoolOp .And es pos) (rdT G X.K (tst (VI.evalAnd P cl l)))
  | [], T, X, es, pos, E, g, hn, h => by cases hn
  | t :: ts, T, X, [], pos, E, g, hn, h => by
    unfold okEs at h
    cases h
  | [t], T, X, e :: r, pos, E, g, hn, h => by
    unfold okEs at h
    simp only [Bool.and_eq_true] at h
    have hr : r = [] := List.length_eq_zero_iff.mp (okEs_len h.2).1
    subst hr
    have ht := okE_ok t E g h.1.2
    have e1 : VI.evalAnd P cl [t] = VI.evalE P cl t := by funext ρ; rw [VI.evalAnd]
    rw [e1]
    exact ⟨pe_one ht.1, w_and1 ht.2⟩
  | t :: u :: ts, T, X, [e], pos, E, g, hn, h => by
    unfold okEs at h
    simp only [Bool.and_eq_true] at h
    have := (okEs_len h.2).1
    simp at this
  | t :: u :: ts, T, X, e :: e2 :: r, pos, E, g, hn, h => by
    unfold okEs at h
    simp only [Bool.and_eq_true] at h
    have ht := okE_ok t E g h.1.2
    obtain ⟨q1, q2⟩ := okAnd_ok (u :: ts) (pos := pos) E g rfl h.2
    have e1 : VI.evalAnd P cl (t :: u :: ts) = fun ρ => VI.bnd (VI.evalE P cl t ρ) fun x => VI.bnd (VI.truthM x) fun k => if k = true then VI.evalAnd P cl (u :: ts) ρ else VI.ret x := by funext ρ; rw [VI.evalAnd]
    rw [e1]
    exact ⟨r_and ht.1 q1, w_and ht.2 q2⟩
theorem okOr_ok : ∀ (l : List VI.E) {T : Tab} {X : Cx} {es : List Expr} {pos : Pos}, Env1 B G P cl X.prog X.w X.K X.mg X.base k → Good T k X → isNil l = false → okEs B l T es = true →
    PE X (.BoolOp .Or es pos) (rdE G X.K (VI.evalOr P cl l)) ∧ PW X (.BoolOp .Or es pos) (rdT G X.K (tst (VI.evalOr P cl l)))
  | [], T, X, es, pos, E, g, hn, h => by cases hn
  | t :: ts, T, X, [], pos, E, g, hn, h => by
    unfold okEs at h
    cases h
  | [t], T, X, e :: r, pos, E, g, hn, h => by
    unfold okEs at h
    simp only [Bool.and_eq_true] at h
    have hr : r = [] := List.length_eq_zero_iff.mp (okEs_len h.2).1
    subst hr
    have ht := okE_ok t E g h.1.2
    have e1 : VI.evalOr P cl [t] = VI.evalE P cl t := by funext ρ; rw [VI.evalOr]
    rw [e1]
    exact ⟨pe_one ht.1, w_or1 ht.2⟩
  | t :: u :: ts, T, X, [e], pos, E, g, hn, h => by
    unfold okEs at h
    simp only [Bool.and_eq_true] at h
    have := (okEs_len h.2).1
    simp at this
  | t :: u :: ts, T, X, e :: e2 :: r, pos, E, g, hn, h => by
    unfold okEs at h
    simp only [Bool.and_eq_true] at h
    have ht := okE_ok t E g h.1.2
    obtain ⟨q1, q2⟩ := okOr_ok (u :: ts) (pos := pos) E g rfl h.2
    have e1 : VI.evalOr P cl (t :: u :: ts) = fun ρ => VI.bnd (VI.evalE P cl t ρ) fun x => VI.bnd (VI.truthM x) fun k => if k = true then VI.ret x else VI.evalOr P cl (u :: ts) ρ := by funext ρ; rw [VI.evalOr]
    rw [e1]
    exact ⟨r_or ht.1 q1, w_or ht.2 q2⟩
end
end
end VIS
end

section
set_option Elab.async false
set_option linter.all false
set_option maxRecDepth 100000
set_option maxHeartbeats 4000000
namespace VIS
open PySem PySem.Spec PyProof.Rows L2
def line0 (ts : List Expr) : Nat := (ts.head?.map (·.pos.line)).getD 0
def nmLocal (sc : List (Str × NameKind)) (line : Nat) : Expr → Bool
  | .Name x p => isLocal (kindIn sc x) && Nat.beq p.line line
  | _ => false
/-- no stores from the right -/
def noPar (sc : List (Str × NameKind)) (tg v : Expr) : Bool := match tg with
  | .Tuple ts _ _ => (match v with
    | .Tuple vs _ _ => (!(Nat.beq ts.length 2 || Nat.beq ts.length 3)) || !Nat.beq vs.length ts.length || ts.any (fun e => !nmLocal sc (line0 ts) e) || vs.all (foldedForSure 8)
    | _ => true)
  | .List _ _ => false
  | _ => true
theorem noPar_ok {tg v : Expr} {env : Env} (h : noPar env.scope.names tg v = true) : swappedStores [tg] v env = pure none := by
  cases tg with
  | Tuple ts k p =>
    cases v with
    | Tuple vs k2 p2 =>
      simp only [noPar] at h
      simp only [swappedStores]
      split
      · rfl
      · rename_i c1
        split
        · rfl
        · split
          · rfl
          · rename_i c3
            split
            · rfl
            · rename_i c4
              exfalso
              simp only [Bool.or_eq_true, bne_iff_ne, ne_eq, not_or, Decidable.not_not, Bool.not_eq_true', Bool.not_eq_true] at c1 c3 h
              obtain ⟨⟨c1a, c1b⟩, c1c⟩ := c1
              rcases h with ((h | h) | h) | h
              · rw [Bool.eq_false_iff] at h
                refine h ?_
                have c1a : (ts.length == 2 || ts.length == 3) = true := by
                  cases c : (ts.length == 2 || ts.length == 3) with
                  | true => rfl
                  | false => exact absurd c c1a
                rw [Bool.or_eq_true] at c1a
                rcases c1a with q | q
                · rw [beq_iff_eq.mp q]; rfl
                · rw [beq_iff_eq.mp q]; rfl
              · rw [c1b] at h
                simp at h
              · rw [List.any_eq_true] at h
                obtain ⟨e, he, h⟩ := h
                have := List.filterMap_length_eq_length.mp c3.1 e he
                rw [Bool.not_eq_true'] at h
                cases e with
                | Name x q =>
                  simp only [nmLocal] at h
                  rw [kindIn_eq] at h
                  have this : (if (env.kindOf x == some NameKind.local && q.line == (Option.map (fun x => x.pos.line) ts.head?).getD 0) = true then some x else none : Option Str).isSome = true := this
                  split at this
                  · rename_i hc
                    simp only [Bool.and_eq_true, beq_iff_eq] at hc
                    have e1 : List.lookup x env.scope.names = some NameKind.local := hc.1
                    rw [e1, hc.2] at h
                    simp [isLocal, line0] at h
                  · cases this
                | _ => cases this
              · exact absurd h c4
    | _ => rfl
  | List _ _ => cases h
  | _ => rfl
/-- all but what is stored from the right -/
def par2 (T : Tab) (i j : Nat) : List Expr → List Expr → Bool
  | [.Name x p, .Name y q], [a, b] => T.at_ i x && T.at_ j y && isLocal (T.kd x) && isLocal (T.kd y) && !eqS x y && Nat.beq q.line p.line && noStar a && noStar b && parC [a, b]
  | _, _ => false
def par3 (T : Tab) (i j k : Nat) : List Expr → List Expr → Bool
  | [.Name x p, .Name y q, .Name z r], [a, b, c] => T.at_ i x && T.at_ j y && T.at_ k z && isLocal (T.kd x) && isLocal (T.kd y) && isLocal (T.kd z) && !eqS x y && !eqS x z && !eqS y z && Nat.beq q.line p.line && Nat.beq r.line p.line && noStar a && noStar b && noStar c && parC [a, b, c]
  | _, _ => false
mutual
def okT (B : Base) : VI.T → Tab → Expr → Bool
  | .slot i, T, e => match e with
    | .Name x _ => T.isSto i x
    | _ => false
  | .tup l, T, e => match e with
    | .Tuple es _ _ => okTs B l T es
    | _ => false
  | .sub a i, T, e => match e with
    | .Subscript x y _ => noSlice y && okE B a T x && okE B i T y
    | _ => false
  | .fld a f, T, e => match e with
    | .Attribute x n _ => nthS B.nm f n && okE B a T x
    | _ => false
def okTs (B : Base) : List VI.T → Tab → List Expr → Bool
  | [], T, es => isNil es
  | t :: ts, T, es => match es with
    | e :: r => noStar e && okT B t T e && okTs B ts T r
    | [] => false
end
/-- target = value -/
def asgN (B : Base) (T : Tab) (t : VI.T) (tg v : Expr) : Bool := !swB T.sc.names v tg && noPar T.sc.names tg v && noStar tg && okT B t T tg
def asgC (T : Tab) (t : VI.T) (e : VI.E) (tg v : Expr) : Bool := match t, e, tg, v with
  | .slot i, .comp _ _ _ _ _ _ _, .Name y p, .ListComp _ _ s q => T.at_ i y && isLocal (T.kd y) && Nat.beq p.line q.line && !(s.names.any fun (n, k) => n == y && (k == .local || k == .cell))
  | _, _, _, _ => false
def asg2 (T : Tab) (t : VI.T) (e : VI.E) (tg v : Expr) : Bool := match t, e, tg, v with
  | .tup [.slot i, .slot j], .tup _, .Tuple ts _ _, .Tuple vs _ _ => par2 T i j ts vs
  | _, _, _, _ => false
def asg3 (T : Tab) (t : VI.T) (e : VI.E) (tg v : Expr) : Bool := match t, e, tg, v with
  | .tup [.slot i, .slot j, .slot k], .tup _, .Tuple ts _ _, .Tuple vs _ _ => par3 T i j k ts vs
  | _, _, _, _ => false
def augIs : Operator → VI.Bop → Bool
  | .Add, .add => true
  | .Sub, .sub => true
  | _, _ => false
theorem augIs_eq {o : Operator} {b : VI.Bop} (h : augIs o b = true) : o = bO b ∧ (b = .add ∨ b = .sub) := by
  cases o <;> cases b <;> first | exact ⟨rfl, .inl rfl⟩ | exact ⟨rfl, .inr rfl⟩ | (simp [augIs] at h)
mutual
def okS (B : Base) : VI.S → Tab → Stmt → Bool
  | .asg t e, T, st => match st with
    | .Assign [tg] v _ => okE B e T v && (asgN B T t tg v || asgC T t e tg v || asg2 T t e tg v || asg3 T t e tg v)
    | _ => false
  | .aug t o e, T, st => match t with
    | .slot i => (match st with
      | .AugAssign (.Name x _) op v _ => augIs op o && T.isSto i x && okE B e T v
      | _ => false)
    | _ => false
  | .expr e, T, st => match st with
    | .Expr v _ => noComp v && okE B e T v
    | _ => false
  | .ret e, T, st => match st with
    | .Return (some v) _ => okE B e T v
    | .Return none _ => (match e with
      | .cst .non => true
      | _ => false)
    | _ => false
  | .ife c a b, T, st => match st with
    | .If v p q _ => okE B c T v && okSs B a T p && okSs B b T q
    | _ => false
  | .whl c b, T, st => match st with
    | .While v p q _ => isNil q && okE B c T v && okSs B b T p
    | _ => false
  | .for t it l b, T, st => match st with
    | .For tg iter p q _ => isNil q && noSet iter && okT B t T tg && (match it with
        | .seq => okEs B l T [iter]
        | .range => (match iter with
          | .Call (.Name x _) es ks _ => isNil ks && T.isGl x && eqS x "range" && (Nat.beq es.length 1 || Nat.beq es.length 2) && okEs B l T es
          | _ => false)
        | _ => false) && okSs B b T p
    | _ => false
  | .ford t it a b, T, st => match st with
    | .For tg iter p q _ => isNil q && noSet iter && okT B t T tg && (match it with
        | .keys => okE B a T iter
        | .values => (match iter with
          | .Call (.Attribute x n ap) es ks p2 => isNil es && isNil ks && eqS n "values" && plainO x && Nat.beq ap.endLine p2.line && okE B a T x
          | _ => false)
        | _ => false) && okSs B b T p
    | _ => false
  | .brk, T, st => match st with
    | .Break _ => true
    | _ => false
  | .cont, T, st => match st with
    | .Continue _ => true
    | _ => false
  | .pass, T, st => match st with
    | .Pass _ => true
    | _ => false
  | .bad, T, st => true
def okSs (B : Base) : List VI.S → Tab → List Stmt → Bool
  | [], T, sts => isNil sts
  | s :: r, T, sts => match sts with
    | [] => false
    | st :: q => okS B s T st && okSs B r T q
end
section
variable {B : Base} {G : Nms} {P : VI.Prog} {cl : Nat → List VI.D → VI.M VI.D} {k : Nat}
theorem PG.eq {X : Cx} {e : Expr} {f f' : VI.D → VI.Env → VI.M VI.Env} (h : PG X e (rdG G X.K f)) (q : f' = f) : PG X e (rdG G X.K f') := by rw [q]; exact h
theorem okTs_len : ∀ {l : List VI.T} {T : Tab} {es : List Expr}, okTs B l T es = true → es.length = l.length ∧ es.all noStar = true
  | [], T, es, h => by
    unfold okTs at h
    rw [isNil_eq h]
    exact ⟨rfl, rfl⟩
  | t :: ts, T, [], h => by
    unfold okTs at h
    cases h
  | t :: ts, T, e :: r, h => by
    unfold okTs at h
    simp only [Bool.and_eq_true] at h
    obtain ⟨h1, h2⟩ := okTs_len h.2
    refine ⟨by rw [List.length_cons, List.length_cons, h1], ?_⟩
    rw [List.all_cons, h.1.1, h2]
    rfl
theorem asgTs_len {l : List VI.T} : ∀ {ds : List VI.D} {ρ : VI.Env} {s : VI.St} {r : VI.Env × VI.St}, VI.asgTs P cl l ds ρ s = some r → ds.length = l.length := by
  induction l with
  | nil =>
    intro ds ρ s r h
    cases ds with
    | nil => rfl
    | cons _ _ => rw [VI.asgTs] at h; cases h
  | cons t ts ih =>
    intro ds ρ s r h
    cases ds with
    | nil => rw [VI.asgTs] at h; cases h
    | cons d ds =>
      rw [VI.asgTs] at h
      obtain ⟨r1, r2⟩ := r
      obtain ⟨ρ', s1, e1, q1⟩ := bnd_some.mp h
      rw [List.length_cons, List.length_cons, ih q1]
mutual
theorem okT_ok : ∀ (t : VI.T) {T : Tab} {X : Cx} {e : Expr}, Env1 B G P cl X.prog X.w X.K X.mg X.base k → Good T k X → okT B t T e = true → PG X e (rdG G X.K (VI.asgT P cl t))
  | .slot i, T, X, e, E, g, h => by
    unfold okT at h
    split at h
    · obtain ⟨h1, h2, h3⟩ := g.sto h
      exact PG.eq (g_name (G := G) g.nd h1 h2 h3) (by funext d ρ; rw [VI.asgT])
    · cases h
  | .tup l, T, X, e, E, g, h => by
    unfold okT at h
    split at h
    · rename_i es kx p
      obtain ⟨h1, h2⟩ := okTs_len h
      exact PG.eq (g_tup (k := kx) (pos := p) g.calm h2 (okTs_ok l E g h) fun ds ρ s r e => by rw [asgTs_len e, h1]) (by funext d ρ; cases d <;> simp only [VI.asgT])
    · cases h
  | .sub a i, T, X, e, E, g, h => by
    unfold okT at h
    split at h
    · simp only [Bool.and_eq_true] at h
      obtain ⟨⟨h1, h2⟩, h3⟩ := h
      exact PG.eq (g_sub g.u1 h1 (okE_ok a E g h2).1 (okE_ok i E g h3).1) (by funext d ρ; rw [VI.asgT])
    · cases h
  | .fld a f, T, X, e, E, g, h => by
    unfold okT at h
    split at h
    · simp only [Bool.and_eq_true] at h
      exact PG.eq (g_fld E.fld (E.nms _ _ (nthS_eq h.1)) (okE_ok a E g h.2).1) (by funext d ρ; rw [VI.asgT])
    · cases h
theorem okTs_ok : ∀ (l : List VI.T) {T : Tab} {X : Cx} {es : List Expr}, Env1 B G P cl X.prog X.w X.K X.mg X.base k → Good T k X → okTs B l T es = true → PGs X es (rdGs G X.K (VI.asgTs P cl l))
  | [], T, X, es, E, g, h => by
    unfold okTs at h
    cases isNil_eq h
    have e1 : VI.asgTs P cl [] = fun ds ρ => match ds with
        | [] => VI.ret ρ
        | _ :: _ => VI.fail := by
      funext ds ρ
      cases ds <;> rw [VI.asgTs]
    rw [e1]
    exact g_nil
  | t :: ts, T, X, [], E, g, h => by
    unfold okTs at h
    cases h
  | t :: ts, T, X, e :: r, E, g, h => by
    unfold okTs at h
    simp only [Bool.and_eq_true] at h
    have e1 : VI.asgTs P cl (t :: ts) = fun ds ρ => match ds with
        | d :: ds => VI.bnd (VI.asgT P cl t d ρ) fun ρ' => VI.asgTs P cl ts ds ρ'
        | [] => VI.fail := by
      funext ds ρ
      cases ds <;> rw [VI.asgTs]
    rw [e1]
    exact g_cons h.1.1 (okT_ok t E g h.1.2) (okTs_ok ts E g h.2)
end
end
end VIS
end

section
set_option Elab.async false
set_option linter.all false
set_option maxRecDepth 100000
set_option maxHeartbeats 4000000
namespace VIS
open PySem PySem.Spec PyProof.Rows L2
section
variable {B : Base} {G : Nms} {P : VI.Prog} {cl : Nat → List VI.D → VI.M VI.D} {k : Nat}
theorem PS.eq {X : Cx} {e : Stmt} {f f' : VI.Env → VI.M (VI.Fl × VI.Env)} (h : PS X e (rdS G X.K f)) (q : f' = f) : PS X e (rdS G X.K f') := by rw [q]; exact h
theorem line_of {a b : Nat} (h : Nat.beq a b = true) : (a == b) = true := beqN h
theorem iter_ok {it : VI.It} {l : List VI.E} {T : Tab} {X : Cx} {tg iter : Expr} (E : Env1 B G P cl X.prog X.w X.K X.mg X.base k) (g : Good T k X) (h5 : (match it with
        | .seq => okEs B l T [iter]
        | .range => (match iter with
          | .Call (.Name x _) es ks _ => isNil ks && T.isGl x && eqS x "range" && (Nat.beq es.length 1 || Nat.beq es.length 2) && okEs B l T es
          | _ => false)
        | _ => false) = true) : PI X tg iter (rdI G X.K (itM P cl it l)) := by
  cases it with
  | seq => exact seq_ok (fun {T X e} => okOne_ok l) E g h5
  | range =>
    simp only at h5
    split at h5
    · simp only [Bool.and_eq_true] at h5
      obtain ⟨⟨⟨⟨q1, q2⟩, q3⟩, q4⟩, q5⟩ := h5
      cases isNil_eq q1
      exact rng_ok (fun {T X es} => okEs_ok l) E g q2 q3 q4 q5
    · cases h5
  | _ => cases h5
theorem asg_ok {t : VI.T} {e : VI.E} {T : Tab} {X : Cx} {tg v : Expr} {pos : Pos} (E : Env1 B G P cl X.prog X.w X.K X.mg X.base k) (g : Good T k X) (he : okE B e T v = true) (h : (asgN B T t tg v || asgC T t e tg v || asg2 T t e tg v || asg3 T t e tg v) = true) :
    PS X (.Assign [tg] v pos) (rdS G X.K (asgM (VI.evalE P cl e) (VI.asgT P cl t))) := by
  simp only [Bool.or_eq_true] at h
  rcases h with ((h | h) | h) | h
  · unfold asgN at h
    simp only [Bool.and_eq_true, Bool.not_eq_true'] at h
    obtain ⟨⟨⟨h1, h2⟩, h3⟩, h4⟩ := h
    rw [← g.sc] at h1 h2
    exact s_asg (okT_ok t E g h4) (okE_ok e E g he).1 (sw_no g.kind h1) (noPar_ok h2) h3
  · unfold asgC at h
    split at h
    · rename_i i own elt t tt it l cs y p el gs s q
      simp only [Bool.and_eq_true, Bool.not_eq_true'] at h
      obtain ⟨⟨⟨h1, h2⟩, h3⟩, h4⟩ := h
      obtain ⟨el2, tg2, iter, ifs, scope, pos2, ow, hv, hC⟩ := comp_ok (own := own) (tt := tt) (t := t) (it := it) (fun {T X e} => okE_ok elt) (fun {T X es} => okEs_ok l) (fun {T X e} => okOne_ok l) (fun {T X e} => okOne_ok cs) E g he
      cases hv
      have hk : X.env.scope.names.lookup y = some .local := by rw [g.kd]; exact isLocal_eq h2
      exact PS.eq (s_comp (own := own) (spos := pos) (py := p) g.calm g.nd hC g.kind (g.at_ h1) hk (line_of h3) h4) (by funext ρ; unfold asgM; rw [evalE_comp]; simp only [VI.asgT])
    · cases h
  · unfold asg2 at h
    split at h
    · rename_i i j l ts k1 p1 vs k2 p2
      unfold par2 at h
      split at h
      · rename_i x px y py a b
        simp only [Bool.and_eq_true, Bool.not_eq_true'] at h
        obtain ⟨⟨⟨⟨⟨⟨⟨⟨h1, h2⟩, h3⟩, h4⟩, h5⟩, h6⟩, h7⟩, h8⟩, h9⟩ := h
        have hx : X.env.scope.names.lookup x = some .local := by rw [g.kd]; exact isLocal_eq h3
        have hy : X.env.scope.names.lookup y = some .local := by rw [g.kd]; exact isLocal_eq h4
        unfold okE at he
        have hA := okEs_ok l E g he
        refine PS.imp (s_par2 g.calm g.nd g.kind (g.at_ h1) (g.at_ h2) hx hy h5 (line_of h6) (by rw [List.all_cons, List.all_cons, h7, h8]; rfl) h9 hA) fun D σ H q => rdS_mono (fun ρ s r e => ?_) q
        have e : VI.bnd (VI.evalE P cl (.tup l) ρ) (fun d => VI.bnd (VI.asgT P cl (.tup [.slot i, .slot j]) d ρ) fun ρ' => VI.ret (.next, ρ')) s = some r := e
        obtain ⟨r1, r2⟩ := r
        obtain ⟨d, s1, e1, q1⟩ := bnd_some.mp e
        clear e
        rw [VI.evalE] at e1
        obtain ⟨ds, s2, e2, q2⟩ := bnd_some.mp e1
        clear e1
        split at q2
        · cases q2
          have hl := evalEs_len e2
          have hl2 := (okEs_len he).1
          rw [← hl2] at hl
          refine bnd_some.mpr ⟨ds, s1, e2, ?_⟩
          match ds, hl, q1 with
          | [d, e], _, q1 =>
            simp only [VI.asgT, VI.asgTs] at q1
            cases q1
            rfl
        · cases q2
      · cases h
    · cases h
  · unfold asg3 at h
    split at h
    · rename_i i j k0 l ts k1 p1 vs k2 p2
      unfold par3 at h
      split at h
      · rename_i x px y py z pz a b c
        simp only [Bool.and_eq_true, Bool.not_eq_true'] at h
        obtain ⟨⟨⟨⟨⟨⟨⟨⟨⟨⟨⟨⟨⟨⟨h1, h2⟩, h3⟩, h4⟩, h5⟩, h6⟩, h7⟩, h8⟩, h9⟩, h10⟩, h11⟩, h12⟩, h13⟩, h14⟩, h15⟩ := h
        have hx : X.env.scope.names.lookup x = some .local := by rw [g.kd]; exact isLocal_eq h4
        have hy : X.env.scope.names.lookup y = some .local := by rw [g.kd]; exact isLocal_eq h5
        have hz : X.env.scope.names.lookup z = some .local := by rw [g.kd]; exact isLocal_eq h6
        unfold okE at he
        have hA := okEs_ok l E g he
        refine PS.imp (s_par3 g.calm g.nd g.kind (g.at_ h1) (g.at_ h2) (g.at_ h3) hx hy hz h7 h8 h9 (line_of h10) (line_of h11) (by rw [List.all_cons, List.all_cons, List.all_cons, h12, h13, h14]; rfl) h15 hA) fun D σ H q => rdS_mono (fun ρ s r e => ?_) q
        have e : VI.bnd (VI.evalE P cl (.tup l) ρ) (fun d => VI.bnd (VI.asgT P cl (.tup [.slot i, .slot j, .slot k0]) d ρ) fun ρ' => VI.ret (.next, ρ')) s = some r := e
        obtain ⟨r1, r2⟩ := r
        obtain ⟨d, s1, e1, q1⟩ := bnd_some.mp e
        clear e
        rw [VI.evalE] at e1
        obtain ⟨ds, s2, e2, q2⟩ := bnd_some.mp e1
        clear e1
        split at q2
        · cases q2
          have hl := evalEs_len e2
          have hl2 := (okEs_len he).1
          rw [← hl2] at hl
          refine bnd_some.mpr ⟨ds, s1, e2, ?_⟩
          match ds, hl, q1 with
          | [d, e, f], _, q1 =>
            simp only [VI.asgT, VI.asgTs] at q1
            cases q1
            rfl
        · cases q2
      · cases h
    · cases h
mutual
theorem okS_ok : ∀ (t : VI.S) {T : Tab} {X : Cx} {st : Stmt}, Env1 B G P cl X.prog X.w X.K X.mg X.base k → Good T k X → okS B t T st = true → PS X st (rdS G X.K (VI.execS P cl t))
  | .asg t e, T, X, st, E, g, h => by
    unfold okS at h
    split at h
    · rw [Bool.and_eq_true] at h
      exact PS.eq (asg_ok E g h.1 h.2) (by funext ρ; rw [VI.execS]; rfl)
    · cases h
  | .aug t o e, T, X, st, E, g, h => by
    unfold okS at h
    split at h
    · split at h
      · simp only [Bool.and_eq_true] at h
        obtain ⟨⟨h1, h2⟩, h3⟩ := h
        obtain ⟨rfl, ho⟩ := augIs_eq h1
        obtain ⟨q1, q2, q3⟩ := g.sto h2
        exact PS.eq (s_augN ho g.nd q1 q2 q3 (okE_ok e E g h3).1) (by funext ρ; rw [VI.execS])
      · cases h
    · cases h
  | .expr e, T, X, st, E, g, h => by
    unfold okS at h
    split at h
    · rw [Bool.and_eq_true] at h
      exact PS.eq (s_expr (okE_ok e E g h.2).1 h.1) (by funext ρ; rw [VI.execS])
    · cases h
  | .ret e, T, X, st, E, g, h => by
    unfold okS at h
    split at h
    · exact PS.eq (s_ret (okE_ok e E g h).1) (by funext ρ; rw [VI.execS])
    · split at h
      · exact PS.eq s_retN (by funext ρ; rw [VI.execS, VI.evalE])
      · cases h
    · cases h
  | .ife c a b, T, X, st, E, g, h => by
    unfold okS at h
    split at h
    · simp only [Bool.and_eq_true] at h
      obtain ⟨⟨h1, h2⟩, h3⟩ := h
      exact PS.eq (s_if (okE_ok c E g h1).2 (okSs_ok a E g h2) (okSs_ok b E g h3)) (by funext ρ; rw [VI.execS]; rfl)
    · cases h
  | .whl c b, T, X, st, E, g, h => by
    unfold okS at h
    split at h
    · simp only [Bool.and_eq_true] at h
      obtain ⟨⟨h1, h2⟩, h3⟩ := h
      cases isNil_eq h1
      exact PS.eq (s_while (N := VI.FUEL) g.own (okE_ok c E g h2).2 (okSs_ok b E g h3)) (by funext ρ; rw [VI.execS])
    · cases h
  | .for t it l b, T, X, st, E, g, h => by
    unfold okS at h
    split at h
    · simp only [Bool.and_eq_true] at h
      obtain ⟨⟨⟨⟨h1, h2⟩, h3⟩, h4⟩, h5⟩ := h
      cases isNil_eq h1
      refine PS.eq (s_for g.own g.calm (iter_ok E g h4) (okT_ok t E g h3) (okSs_ok b E g h5) h2) ?_
      funext ρ
      rw [VI.execS]
      funext s
      unfold forM itM VI.bnd
      cases VI.evalEs P cl l ρ s <;> rfl
    · cases h
  | .ford t it a b, T, X, st, E, g, h => by
    unfold okS at h
    split at h
    · rename_i tg iter p q pos
      simp only [Bool.and_eq_true] at h
      obtain ⟨⟨⟨⟨h1, h2⟩, h3⟩, h4⟩, h5⟩ := h
      cases isNil_eq h1
      have hi : PI X tg iter (rdI G X.K (itD it (VI.evalE P cl a))) := by
        cases it with
        | keys => exact p_keys (okE_ok a E g h4).1
        | values =>
          simp only at h4
          split at h4
          · simp only [Bool.and_eq_true] at h4
            obtain ⟨⟨⟨⟨⟨q1, q2⟩, q3⟩, q4⟩, q5⟩, q6⟩ := h4
            cases isNil_eq q1
            cases isNil_eq q2
            rw [eqS_eq q3]
            exact p_vals q4 (beqN q5) (okE_ok a E g q6).1
          · cases h4
        | _ => cases h4
      refine PS.eq (s_ford g.own g.calm hi (okT_ok t E g h3) (okSs_ok b E g h5) h2) ?_
      funext ρ
      rw [VI.execS]
      funext s
      unfold fordM
      have e1 : forM (itD it (VI.evalE P cl a)) (VI.asgT P cl t) (VI.execSs P cl b) ρ = VI.bnd (VI.evalE P cl a ρ) fun x => VI.bnd (VI.iterD it x) fun w => VI.forL w.2 (fun d ρ => VI.bnd (VI.asgT P cl t d ρ) fun ρ' => VI.execSs P cl b ρ') w.1 ρ := by
        funext s
        unfold forM itD VI.bnd
        cases VI.evalE P cl a ρ s <;> rfl
      rw [e1] <;> rfl
    · cases h
  | .brk, T, X, st, E, g, h => by
    unfold okS at h
    split at h
    · exact PS.eq s_brk (by funext ρ; rw [VI.execS])
    · cases h
  | .cont, T, X, st, E, g, h => by
    unfold okS at h
    split at h
    · exact PS.eq s_cont (by funext ρ; rw [VI.execS])
    · cases h
  | .pass, T, X, st, E, g, h => by
    unfold okS at h
    split at h
    · exact PS.eq s_pass (by funext ρ; rw [VI.execS])
    · cases h
  | .bad, T, X, st, E, g, h => PS.eq s_bad (by funext ρ; rw [VI.execS])
theorem okSs_ok : ∀ (l : List VI.S) {T : Tab} {X : Cx} {sts : List Stmt}, Env1 B G P cl X.prog X.w X.K X.mg X.base k → Good T k X → okSs B l T sts = true → PSs X sts (rdS G X.K (VI.execSs P cl l))
  | [], T, X, sts, E, g, h => by
    unfold okSs at h
    cases isNil_eq h
    have e1 : VI.execSs P cl [] = fun ρ => VI.ret (.next, ρ) := by funext ρ; rw [VI.execSs]
    rw [e1]
    exact ss_nil
  | s :: r, T, X, [], E, g, h => by
    unfold okSs at h
    cases h
  | s :: r, T, X, st :: q, E, g, h => by
    unfold okSs at h
    rw [Bool.and_eq_true] at h
    have e1 : VI.execSs P cl (s :: r) = seqM (VI.execS P cl s) (VI.execSs P cl r) := by funext ρ; rw [VI.execSs]; rfl
    rw [e1]
    exact ss_cons (okS_ok s E g h.1) (okSs_ok r E g h.2)
end
end
end VIS
end

section
set_option Elab.async false
set_option linter.all false
set_option maxRecDepth 100000
set_option maxHeartbeats 4000000
namespace VIS
open PySem PySem.Spec PyProof.Rows L2
section
variable {B : Base} {G : Nms} {P : VI.Prog} {prog : Program} {wd : World} {K : PySem.W.Frag} {mg : Str → Option Value} {base : Heap}
/-- a function of the text, and its term -/
structure FunOk (B : Base) (K : PySem.W.Frag) (fn : VI.Fn) (a : Addr) : Prop where
  ex : ∃ (x qual : Str) (params : Arguments) (body : List Stmt) (scope : Scope) (kws : List (Str × V)) (dvs : List V) (fd : FuncData) (N ps : List Str), FunD K x qual params body scope dvs kws a fd ∧ FnScope N ps scope ∧ Binds K fd ps [] ∧ fn.np = ps.length ∧ fn.ns = N.length ∧
    okSs B fn.body ⟨N, scope, none⟩ body = true ∧ ∀ x ∈ N, (x == ("__debug__" : Str)) = false ∧ (x == ("__classdict__" : Str)) = false
structure ProgOk (B : Base) (G : Nms) (P : VI.Prog) (K : PySem.W.Frag) (mg : Str → Option Value) (addr : Nat → Addr) : Prop where
  fun_ : ∀ f fn, P.fns[f]? = some fn → FunOk B K fn (addr f)
  cst : ∀ x d, (x, d) ∈ B.cst → (x == ("__debug__" : Str)) = false ∧ ∃ v u, mg x = some u ∧ RelV v u ∧ ∀ w, VR K w d v
  fns : ∀ f x, B.fns[f]? = some x → (x == ("__debug__" : Str)) = false ∧ mg x = some (.ref (addr f)) ∧ f < P.fns.length
  cls : ∀ c x, B.cls[c]? = some x → (x == ("__debug__" : Str)) = false ∧ mg x = some (.ref (G.cls c)) ∧ ∃ kc, P.cls[c]? = some kc ∧ Mk K (G.cls c) (addr kc.init) ∧ kc.init < P.fns.length
  mth : ∀ c m f, P.meth c m = some f → Cls K (G.cls c) ∧ Meth K (G.cls c) (G.nm m) (addr f) ∧ f < P.fns.length
  fld : FldOk G K P.fld
  nms : ∀ f x, B.nm[f]? = some x → x = G.nm f
  blt : ∀ x ∈ bltN, mg x = none
theorem dropped_some {m : VI.M VI.D} {s s' : VI.St} {d : VI.D} (h : VI.dropped m s = some (d, s')) : ∃ s1, m s = some (d, s1) ∧ ((VI.Drops s d s1 ∧ s' = s1.take s.length) ∨ s' = s1) := by
  unfold VI.dropped at h
  split at h
  · cases h
  · rename_i d1 s1 e
    split at h
    · rename_i c
      cases h
      exact ⟨s1, e, .inl ⟨c, rfl⟩⟩
    · cases h
      exact ⟨_, e, .inr rfl⟩
theorem start_er {w : Wd} {ds : List VI.D} {vs : List V} {N : List Str} {n : Nat} (h : VRs K w ds vs) (hn : n = N.length) : ER K w (ds.map some ++ List.replicate (n - ds.length) none) (L2.start N vs) := by
  have hl := h.length
  refine ⟨?_, fun i d e => ?_⟩
  · unfold L2.start
    simp only [List.length_append, List.length_map, List.length_replicate]
    omega
  · by_cases c : i < ds.length
    · rw [List.getElem?_append_left (by rw [List.length_map]; exact c), List.getElem?_map] at e
      obtain ⟨d', e1, e2⟩ := Option.map_eq_some_iff.mp e
      cases e2
      obtain ⟨v, h1, h2⟩ := h.get e1
      refine ⟨v, ?_, h2⟩
      unfold L2.start
      rw [List.getElem?_append_left (by rw [List.length_map, hl]; exact c), List.getElem?_map, h1]
      rfl
    · rw [List.getElem?_append_right (by rw [List.length_map]; omega), List.getElem?_replicate] at e
      split at e <;> cases e
theorem fn_zero {fn : VI.Fn} {a : Addr} (F : FunOk B K fn a) (f : Nat) (k : Nat) : FnF G prog wd K mg base k a (VI.callAt P 0 f) := by
  obtain ⟨x, qual, params, body, scope, kws, dvs, fd, N, ps, F, S, hb, hp, hn, ok, nm⟩ := F.ex
  have no : ∀ {vs : List V} {H : Hp} {Q : VK} {E : XK}, spF G K (VI.callAt P 0 f) vs H Q E → False := fun {vs H Q E} ⟨w, st, ds, _, _, _, d, st', eq, _⟩ => by
    unfold VI.callAt at eq
    cases eq
  exact ⟨⟨fd, ps, ⟨fun vs H Q E h => (no h).elim, fun A outer s H args us vs Q E _ _ _ _ h => (no h).elim⟩, hb⟩, F.kp⟩
theorem fn_body {fn : VI.Fn} {a : Addr} {f d k : Nat} {x qual : Str} {params : Arguments} {body : List Stmt} {scope : Scope} {kws : List (Str × V)} {dvs : List V} {fd : FuncData} {N ps : List Str} (hf : P.fns[f]? = some fn) (F : FunD K x qual params body scope dvs kws a fd) (S : FnScope N ps scope) (hp : fn.np = ps.length) (hn : fn.ns = N.length)
    (ok : okSs B fn.body ⟨N, scope, none⟩ body = true) (nm : ∀ x ∈ N, (x == ("__debug__" : Str)) = false ∧ (x == ("__classdict__" : Str)) = false) (E : Env1 B G P (VI.callAt P d) prog wd K mg base k) : FnOk prog wd K mg base CX0 (k + 2) a fd ps (spF G K (VI.callAt P (d + 1) f)) := by
  have eC : VI.callAt P (d + 1) f = VI.dropped ∘ VI.runFn P (VI.callAt P d) fn := by
    funext vs
    rw [VI.callAt, hf]
    rfl
  have len : ∀ vs H Q E, spF G K (VI.callAt P (d + 1) f) vs H Q E → vs.length = ps.length := fun vs H Q E ⟨w, st, ds, _, _, rs, dd, st', eq, _⟩ => by
    rw [eC] at eq
    obtain ⟨s1, e1, _⟩ := dropped_some eq
    unfold VI.runFn at e1
    split at e1
    · rename_i hl
      rw [rs.length, hl, hp]
    · cases e1
  refine F.ok S len fun cdv A outer s H vs Q E' hr h => ?_
  have g : Good ⟨N, scope, none⟩ k ((cxOf CX0 prog wd K mg base N qual scope a cdv A outer s H E').nox) := ⟨rfl, rfl, S.nd, S.kind, rfl, fun _ _ => rfl, nm, PassesOwn.never, hr⟩
  refine ⟨_, (okSs_ok fn.body (X := (cxOf CX0 prog wd K mg base N qual scope a cdv A outer s H E').nox) E g ok).nox, ?_⟩
  obtain ⟨w, st, ds, at_, sr, rs, dd, st', eq, q⟩ := h
  rw [eC] at eq
  obtain ⟨s1, e1, hs⟩ := dropped_some eq
  clear eq
  unfold VI.runFn at e1
  split at e1
  · rename_i hl
    obtain ⟨r, s2, e2, q2⟩ := bnd_some.mp e1
    clear e1
    refine ⟨w, st, _, at_, sr, ?_, r, s2, e2, fun w1 H1 σ1 p1 r1 er1 => ?_⟩
    · rw [hn, hp, ← show ds.length = ps.length by rw [hl, hp]]
      exact start_er rs rfl
    · obtain ⟨fl, ρ1⟩ := r
      have fin : s2 = s1 → ∀ v, VR K w1 dd v → Q v H1 := fun es v kv => by
        subst es
        rcases hs with ⟨c, rfl⟩ | rfl
        · obtain ⟨w2, p2, r2, k2⟩ := step_drop sr p1 r1 kv c
          exact q w2 H1 v p2 r2 k2
        · exact q w1 H1 v p1 r1 kv
      cases fl with
      | ret d' =>
        cases q2
        exact fun v kv => fin rfl v kv
      | next =>
        cases q2
        exact fin rfl _ .nonI
      | brk => cases q2
      | cont => cases q2
  · cases e1
theorem fn_succ {fn : VI.Fn} {a : Addr} {f d k : Nat} (hf : P.fns[f]? = some fn) (F : FunOk B K fn a) (E : Env1 B G P (VI.callAt P d) prog wd K mg base k) : FnF G prog wd K mg base (k + 2) a (VI.callAt P (d + 1) f) := by
  obtain ⟨x, qual, params, body, scope, kws, dvs, fd, N, ps, F, S, hb, hp, hn, ok, nm⟩ := F.ex
  exact ⟨⟨fd, ps, fn_body hf F S hp hn ok nm E, hb⟩, F.kp⟩
theorem env_of {addr : Nat → Addr} {cl : Nat → List VI.D → VI.M VI.D} {k : Nat} (O : ProgOk B G P K mg addr) (h : ∀ f, f < P.fns.length → FnF G prog wd K mg base k (addr f) (cl f)) : Env1 B G P cl prog wd K mg base k where
  cst := O.cst
  fns := fun f x e => let ⟨h1, h2, h3⟩ := O.fns f x e; ⟨h1, addr f, h2, h f h3⟩
  cls := fun c x e => let ⟨h1, h2, kc, h3, h4, h5⟩ := O.cls c x e; ⟨h1, h2, kc, h3, ⟨addr kc.init, h4, h kc.init h5⟩⟩
  mth := fun c m f e => let ⟨h1, h2, h3⟩ := O.mth c m f e; ⟨h1, addr f, h2, h f h3⟩
  fld := O.fld
  nms := O.nms
  blt := O.blt
theorem fn_all {addr : Nat → Addr} (O : ProgOk B G P K mg addr) : ∀ d f, f < P.fns.length → FnF G prog wd K mg base (2 * d) (addr f) (VI.callAt P d f)
  | 0, f, hf => fn_zero (O.fun_ f P.fns[f] (List.getElem?_eq_getElem hf)) f _
  | d + 1, f, hf => fn_succ (List.getElem?_eq_getElem hf) (O.fun_ f P.fns[f] (List.getElem?_eq_getElem hf)) (env_of O (fn_all O d))
/-- the law's promise -/
theorem law_sp {cl : List VI.D → VI.M VI.D} {ns : List Int} {st' : VI.St} (h : cl [.fro (ns.map VI.D.int)] [] = some (.bl true, st')) {H : Hp} {a : Addr} {E : XK} (hS : SqL K H a (ns.map V.int)) : spF G K cl [.ref a] H (fun v _ => v = .bl true) E := by
  have no : ∀ b, ¬ own ⟨0, fun _ => 0, H⟩ b := fun b ⟨i, hi, _⟩ => absurd hi (Nat.not_lt_zero i)
  refine ⟨⟨0, fun _ => 0, H⟩, [], [.fro (ns.map VI.D.int)], ⟨fun _ _ h => h, fun i hi => absurd hi (Nat.not_lt_zero i)⟩, ⟨rfl, fun i _ hi => absurd hi (Nat.not_lt_zero i), fun i c e => by simp at e⟩, .one ?_, .bl true, st', h, fun w' H' v _ _ k => k.bl_eq⟩
  simp only [VR]
  refine ⟨a, ns.map V.int, rfl, ?_, .ints ns⟩
  rcases hS with h | h
  · exact .inl ⟨h, no a⟩
  · exact .inr (.inr h)
end
end VIS
end

section
set_option Elab.async false
set_option linter.all false
set_option maxRecDepth 100000
set_option maxHeartbeats 4000000
namespace VIS
open PySem PySem.Spec PyProof.Rows L2
/-- one function: its term, its place in the text, its names, its parameters -/
structure VRow where
  fn : VI.Fn
  d : He.DefD
  N : List Str
  ps : List Str
def rowOk (B : Base) (r : VRow) : Bool := okSs B r.fn.body ⟨r.N, r.d.scope, none⟩ r.d.body && C8.scC r.N r.ps r.d.scope && Nat.beq r.fn.np r.ps.length && Nat.beq r.fn.ns r.N.length &&
  r.N.all (fun x => !eqS x "__debug__" && !eqS x "__classdict__") && isNil r.d.dfl && isNil r.d.kwd
def RowB (r : VRow) : Prop := ∀ (kV doc pm : Value) (an : Option Addr) (cdv ct : Value) (us : List Value), us.length = r.ps.length → bindArgs (PySem.W.fnOf r.d.name r.d.qual r.d.params r.d.body r.d.scope .none kV doc pm an cdv ct) ⟨us, []⟩ = pure (r.ps.zip us)
def AllB : List VRow → Prop
  | [] => True
  | r :: q => RowB r ∧ AllB q
theorem AllB.mem : ∀ {l : List VRow} {r : VRow}, AllB l → r ∈ l → RowB r
  | q :: l, r, h, m => by
    rcases List.mem_cons.mp m with e | m
    · subst e; exact h.1
    · exact AllB.mem h.2 m
theorem eqS_ne {x y : Str} (h : eqS x y = false) : (x == y) = false := (beqS_ne h).1
section
variable {B : Base} {K : PySem.W.Frag}
theorem row_fun {r : VRow} {a : Addr} {fd : FuncData} (h : rowOk B r = true) (hb : RowB r) (F : FunD K r.d.name r.d.qual r.d.params r.d.body r.d.scope (r.d.dvs K) (r.d.kws K) a fd) : FunOk B K r.fn a := by
  unfold rowOk at h
  simp only [Bool.and_eq_true] at h
  obtain ⟨⟨⟨⟨⟨⟨h1, h2⟩, h3⟩, h4⟩, h5⟩, h6⟩, h7⟩ := h
  have e1 : r.d.dvs K = [] := by unfold He.DefD.dvs; rw [isNil_eq h6]; rfl
  have e2 : r.d.kws K = [] := by unfold He.DefD.kws; rw [isNil_eq h7]; rfl
  rw [e1, e2] at F
  refine ⟨r.d.name, r.d.qual, r.d.params, r.d.body, r.d.scope, [], [], fd, r.N, r.ps, F, C8.fnScope_by h2, F.bindsN hb, Nat.eq_of_beq_eq_true h3, Nat.eq_of_beq_eq_true h4, h1, fun x hx => ?_⟩
  have := List.all_eq_true.mp h5 x hx
  simp only [Bool.and_eq_true, Bool.not_eq_true'] at this
  exact ⟨eqS_ne this.1, eqS_ne this.2⟩
end
/-! ### names by number -/
def nmG (l : List Str) (f : Nat) : Str := match l[f]? with
  | some x => x
  | none => ⟨#[0, f]⟩
def noZero (s : Str) : Bool := match s.cps.toList with
  | 0 :: _ => false
  | _ => true
def nodS : List Str → Bool
  | [] => true
  | x :: r => r.all (fun y => !eqS x y) && nodS r
theorem nodS_inj : ∀ {l : List Str}, nodS l = true → ∀ {i j : Nat} {x : Str}, l[i]? = some x → l[j]? = some x → i = j
  | [], _, i, j, x, hi, _ => by simp at hi
  | y :: r, h, 0, 0, x, hi, hj => rfl
  | y :: r, h, 0, j + 1, x, hi, hj => by
    simp only [nodS, Bool.and_eq_true] at h
    simp at hi hj
    subst hi
    have := List.all_eq_true.mp h.1 y (List.mem_of_getElem? hj)
    rw [eqS_refl] at this
    cases this
  | y :: r, h, i + 1, 0, x, hi, hj => by
    simp only [nodS, Bool.and_eq_true] at h
    simp at hi hj
    subst hj
    have := List.all_eq_true.mp h.1 y (List.mem_of_getElem? hi)
    rw [eqS_refl] at this
    cases this
  | y :: r, h, i + 1, j + 1, x, hi, hj => by
    simp only [nodS, Bool.and_eq_true] at h
    rw [nodS_inj h.2 (i := i) (j := j) (by simpa using hi) (by simpa using hj)]
theorem nmG_inj {l : List Str} (h : (nodS l && l.all noZero) = true) : ∀ f g, nmG l f = nmG l g → f = g := by
  rw [Bool.and_eq_true] at h
  have key : ∀ {f : Nat} {x : Str} {g : Nat}, l[f]? = some x → x = ⟨#[0, g]⟩ → False := fun {f x g} e1 e2 => by
    have := List.all_eq_true.mp h.2 x (List.mem_of_getElem? e1)
    subst e2
    cases this
  intro f g e
  unfold nmG at e
  cases c1 : l[f]? with
  | some x =>
    rw [c1] at e
    cases c2 : l[g]? with
    | some y =>
      rw [c2] at e
      have e : x = y := e
      subst e
      exact nodS_inj h.1 c1 c2
    | none =>
      rw [c2] at e
      exact (key c1 e).elim
  | none =>
    rw [c1] at e
    cases c2 : l[g]? with
    | some y =>
      rw [c2] at e
      exact (key c2 (Eq.symm e)).elim
    | none =>
      rw [c2] at e
      simpa using e
/-! ### the facts of the head -/
def cFa : Str × VI.D → Option He.Fa
  | (x, .int i) => some (.int x i)
  | (x, .str s) => some (.str x (toS s))
  | _ => none
def clsFa (B : Base) (c : Str) (k : VI.Cls) : List He.Fa := .glo c :: .cls c :: .mkr c :: ((k.meths.map fun m => .meth c (nmG B.nm m.1)) ++ k.flds.map fun f => .noat c (nmG B.nm f))
def faOf (B : Base) (P : VI.Prog) : List He.Fa := B.fns.map .glo ++ (bltN.map .free ++ (B.cst.filterMap cFa ++ (B.cls.zip P.cls).flatMap fun p => clsFa B p.1 p.2))
/-- where a function is looked for -/
def isAt (rows : List VRow) (f : Nat) (c : Str) (m : Option Str) : Bool := match rows[f]? with
  | some r => eqS r.d.at_.1 c && (match r.d.at_.2, m with
    | none, none => true
    | some x, some y => eqS x y
    | _, _ => false)
  | none => false
def clsOk (rows : List VRow) (B : Base) (c : Str) (k : VI.Cls) : Bool := isAt rows k.init c (some "__init__") && k.meths.all fun m => isAt rows m.2 c (some (nmG B.nm m.1))
def fnsOk (rows : List VRow) : Nat → List Str → Bool
  | _, [] => true
  | i, x :: r => isAt rows i x none && fnsOk rows (i + 1) r
def tabOk (rows : List VRow) (B : Base) (P : VI.Prog) : Bool := nodS B.nm && B.nm.all noZero && Nat.beq B.cls.length P.cls.length && B.cst.all (fun p => (cFa p).isSome && !eqS p.1 "__debug__") && fnsOk rows 0 B.fns && B.fns.all (fun x => !eqS x "__debug__") && B.cls.all (fun x => !eqS x "__debug__") &&
  ((B.cls.zip P.cls).all fun p => clsOk rows B p.1 p.2)
theorem isAt_ok {rows : List VRow} {f : Nat} {c : Str} {m : Option Str} (h : isAt rows f c m = true) : ∃ r, rows[f]? = some r ∧ r.d.at_ = (c, m) := by
  unfold isAt at h
  split at h
  · rename_i r e
    refine ⟨r, e, ?_⟩
    rw [Bool.and_eq_true] at h
    obtain ⟨h1, h2⟩ := h
    have e1 := eqS_eq h1
    have e2 : r.d.at_.2 = m := by
      split at h2
      · rename_i q; rw [q]
      · rename_i q; rw [q, eqS_eq h2]
      · cases h2
    exact Prod.ext e1 e2
  · cases h
theorem fnsOk_ok {rows : List VRow} : ∀ {l : List Str} {i f : Nat} {x : Str}, fnsOk rows i l = true → l[f]? = some x → isAt rows (i + f) x none = true
  | [], _, _, _, _, e => by simp at e
  | y :: r, i, 0, x, h, e => by
    simp only [fnsOk, Bool.and_eq_true] at h
    simp at e
    subst e
    exact h.1
  | y :: r, i, f + 1, x, h, e => by
    simp only [fnsOk, Bool.and_eq_true] at h
    have := fnsOk_ok (f := f) h.2 (by simpa using e)
    rw [show i + (f + 1) = i + 1 + f by omega]
    exact this
def gOf (B : Base) (K : PySem.W.Frag) : Nms := ⟨nmG B.nm, fun c => He.ga K (B.cls.getD c ⟨#[]⟩)⟩
def addrOf (rows : List VRow) (K : PySem.W.Frag) (f : Nat) : Addr := match rows[f]? with
  | some r => He.fAd K r.d.at_
  | none => 0
section
variable {B : Base} {P : VI.Prog} {K : PySem.W.Frag} {rows : List VRow} {mg : Str → Option Value} {h : Heap}
theorem prog_ok (hP : P.fns = rows.map VRow.fn) (hT : tabOk rows B P = true) (hR : rows.all (rowOk B) = true) (hB : AllB rows) (X : K.In h) (Gm : h.Ns mainGlobals mg) (S : He.SaysD (faOf B P) (rows.map VRow.d) K) : ProgOk B (gOf B K) P K mg (addrOf rows K) := by
  unfold tabOk at hT
  simp only [Bool.and_eq_true] at hT
  obtain ⟨⟨⟨⟨⟨⟨⟨t1, t2⟩, t3⟩, t4⟩, t5⟩, t6⟩, t7⟩, t8⟩ := hT
  have inj : ∀ f g, nmG B.nm f = nmG B.nm g → f = g := nmG_inj (by rw [t1, t2]; rfl)
  have ne : ∀ {x y : Str}, (!eqS x y) = true → (x == y) = false := fun {x y} e => eqS_ne (by simpa using e)
  have lenP : P.fns.length = rows.length := by rw [hP, List.length_map]
  have memG : ∀ {x}, x ∈ B.fns → He.Fa.glo x ∈ faOf B P := fun {x} hx => List.mem_append_left _ (List.mem_map_of_mem hx)
  have memB : ∀ {x}, x ∈ bltN → He.Fa.free x ∈ faOf B P := fun {x} hx => List.mem_append_right _ (List.mem_append_left _ (List.mem_map_of_mem hx))
  have memC : ∀ {p f}, p ∈ B.cst → cFa p = some f → f ∈ faOf B P := fun {p f} hp e => List.mem_append_right _ (List.mem_append_right _ (List.mem_append_left _ (List.mem_filterMap.mpr ⟨p, hp, e⟩)))
  have zipC : ∀ {c : Nat} {x : Str} {k : VI.Cls}, B.cls[c]? = some x → P.cls[c]? = some k → (x, k) ∈ B.cls.zip P.cls := fun {c x k} e1 e2 => List.mem_of_getElem? (i := c) (by rw [List.getElem?_zip_eq_some]; exact ⟨e1, e2⟩)
  have memK : ∀ {x k f}, (x, k) ∈ B.cls.zip P.cls → f ∈ clsFa B x k → f ∈ faOf B P := fun {x k f} hz hf => List.mem_append_right _ (List.mem_append_right _ (List.mem_append_right _ (List.mem_flatMap.mpr ⟨(x, k), hz, hf⟩)))
  have nameC : ∀ {c : Nat} {k : VI.Cls}, P.cls[c]? = some k → ∃ x, B.cls[c]? = some x := fun {c k} e => by
    have := (List.getElem?_eq_some_iff.mp e).1
    rw [← Nat.eq_of_beq_eq_true t3] at this
    exact ⟨_, List.getElem?_eq_getElem this⟩
  have clsG : ∀ {c : Nat} {x : Str}, B.cls[c]? = some x → (gOf B K).cls c = He.ga K x := fun {c x} e => by
    show He.ga K (B.cls.getD c ⟨#[]⟩) = _
    rw [List.getD_eq_getElem?_getD, e]
    rfl
  have atA : ∀ {f : Nat} {c : Str} {m : Option Str}, isAt rows f c m = true → addrOf rows K f = He.fAd K (c, m) ∧ f < P.fns.length := fun {f c m} e => by
    obtain ⟨r, e1, e2⟩ := isAt_ok e
    refine ⟨?_, by rw [lenP]; exact (List.getElem?_eq_some_iff.mp e1).1⟩
    unfold addrOf
    rw [e1]
    show He.fAd K r.d.at_ = _
    rw [e2]
  refine ⟨fun f fn e => ?_, fun x d e => ?_, fun f x e => ?_, fun c x e => ?_, fun c m f e => ?_, ⟨inj, fun c f e => ?_⟩, fun f x e => ?_, fun x hx => ?_⟩
  · rw [hP, List.getElem?_map] at e
    obtain ⟨r, e1, e2⟩ := Option.map_eq_some_iff.mp e
    subst e2
    have hm := List.mem_of_getElem? e1
    obtain ⟨fd, F⟩ := S.defs (d := r.d) (List.mem_map_of_mem hm)
    have ea : addrOf rows K f = He.fAd K r.d.at_ := by
      unfold addrOf
      rw [e1]
    rw [ea]
    exact row_fun (List.all_eq_true.mp hR r hm) (hB.mem hm) F
  · have := List.all_eq_true.mp t4 (x, d) e
    rw [Bool.and_eq_true] at this
    refine ⟨ne this.2, ?_⟩
    cases d with
    | int i =>
      obtain ⟨t, ht⟩ := He.int_ok X Gm (S.facts (memC e (rfl : cFa (x, VI.D.int i) = some (.int x i))))
      exact ⟨.int i, _, ht, ⟨t, rfl⟩, fun w => .intI⟩
    | str s =>
      obtain ⟨t, ht⟩ := He.str_ok X Gm (S.facts (memC e (rfl : cFa (x, VI.D.str s) = some (.str x (toS s)))))
      exact ⟨.str (toS s), _, ht, ⟨t, rfl⟩, fun w => .strI⟩
    | _ => exact absurd this.1 (by simp [cFa])
  · have hx := List.mem_of_getElem? e
    have ha := atA (fnsOk_ok (i := 0) t5 e)
    rw [Nat.zero_add] at ha
    refine ⟨ne (List.all_eq_true.mp t6 x hx), ?_, ha.2⟩
    rw [ha.1]
    exact He.glo_ok X Gm (S.facts (memG hx))
  · have hx := List.mem_of_getElem? e
    have hc : c < P.cls.length := by
      rw [← Nat.eq_of_beq_eq_true t3]
      exact (List.getElem?_eq_some_iff.mp e).1
    have hk := List.getElem?_eq_getElem hc
    have hz := zipC e hk
    have ho := List.all_eq_true.mp t8 _ hz
    unfold clsOk at ho
    rw [Bool.and_eq_true] at ho
    have ha := atA ho.1
    refine ⟨ne (List.all_eq_true.mp t7 x hx), ?_, P.cls[c], hk, ?_, ha.2⟩
    · rw [clsG e]
      exact He.glo_ok X Gm (S.facts (memK hz (List.mem_cons_self ..)))
    · rw [clsG e, ha.1]
      exact He.mkr_ok (S.facts (memK hz (List.mem_cons_of_mem _ (List.mem_cons_of_mem _ (List.mem_cons_self ..)))))
  · unfold VI.Prog.meth at e
    split at e
    · rename_i k hk
      obtain ⟨x, hx⟩ := nameC hk
      have hz := zipC hx hk
      have ho := List.all_eq_true.mp t8 _ hz
      unfold clsOk at ho
      rw [Bool.and_eq_true] at ho
      have hm : (m, f) ∈ k.meths := by
        have key : ∀ l : List (Nat × Nat), l.lookup m = some f → (m, f) ∈ l := by
          intro l
          induction l with
          | nil => intro h; cases h
          | cons p r ih =>
            obtain ⟨a, b⟩ := p
            intro h
            rw [List.lookup_cons] at h
            cases q : (m == a) with
            | true =>
              rw [q] at h
              cases h
              rw [beq_iff_eq.mp q]
              exact List.mem_cons_self ..
            | false =>
              rw [q] at h
              exact List.mem_cons_of_mem _ (ih h)
        exact key _ e
      have ha := atA (List.all_eq_true.mp ho.2 (m, f) hm)
      rw [clsG hx]
      refine ⟨He.cls_ok (S.facts (memK hz (List.mem_cons_of_mem _ (List.mem_cons_self ..)))), ?_, ha.2⟩
      rw [ha.1]
      exact He.meth_ok (S.facts (memK hz (List.mem_cons_of_mem _ (List.mem_cons_of_mem _ (List.mem_cons_of_mem _ (List.mem_append_left _ (List.mem_map_of_mem (f := fun m => He.Fa.meth x (nmG B.nm m.1)) hm)))))))
    · cases e
  · unfold VI.Prog.fld at e
    split at e
    · rename_i k hk
      obtain ⟨x, hx⟩ := nameC hk
      have hz := zipC hx hk
      have hf : f ∈ k.flds := by simpa using e
      rw [clsG hx]
      refine ⟨He.cls_ok (S.facts (memK hz (List.mem_cons_of_mem _ (List.mem_cons_self ..)))), ?_⟩
      exact He.noat_ok (S.facts (memK hz (List.mem_cons_of_mem _ (List.mem_cons_of_mem _ (List.mem_cons_of_mem _ (List.mem_append_right _ (List.mem_map_of_mem (f := fun f => He.Fa.noat x (nmG B.nm f)) hf)))))))
    · cases e
  · show x = nmG B.nm f
    unfold nmG
    rw [e]
  · exact He.free_ok X Gm (S.facts (memB hx))
/-- the law: its function object, its promise -/
theorem law_fn {f d : Nat} {r : VRow} (O : ProgOk B (gOf B K) P K mg (addrOf rows K)) (hP : P.fns = rows.map VRow.fn) (hr : rows[f]? = some r) (hR : rows.all (rowOk B) = true) (hB : AllB rows) (S : He.SaysD (faOf B P) (rows.map VRow.d) K) :
    ∃ fd, (∀ (s : Shared) (us : List Value), us.length = r.ps.length → BindsTo s fd ⟨us, []⟩ (r.ps.zip us)) ∧ ∀ (prog : Program) (wd : World) (base : Heap), FnOk prog wd K mg base CX0 (2 * d + 2) (addrOf rows K f) fd r.ps (spF (gOf B K) K (VI.callAt P (d + 1) f)) := by
  have hm := List.mem_of_getElem? hr
  obtain ⟨fd, F⟩ := S.defs (d := r.d) (List.mem_map_of_mem hm)
  have h := List.all_eq_true.mp hR r hm
  have hb := hB.mem hm
  unfold rowOk at h
  simp only [Bool.and_eq_true] at h
  obtain ⟨⟨⟨⟨⟨⟨h1, h2⟩, h3⟩, h4⟩, h5⟩, h6⟩, h7⟩ := h
  have e1 : r.d.dvs K = [] := by unfold He.DefD.dvs; rw [isNil_eq h6]; rfl
  have e2 : r.d.kws K = [] := by unfold He.DefD.kws; rw [isNil_eq h7]; rfl
  rw [e1, e2] at F
  have ea : addrOf rows K f = He.fAd K r.d.at_ := by
    unfold addrOf
    rw [hr]
  rw [ea]
  refine ⟨fd, F.bindsA hb, fun prog wd base => ?_⟩
  refine fn_body (fn := r.fn) (by rw [hP, List.getElem?_map, hr]; rfl) F (C8.fnScope_by h2) (Nat.eq_of_beq_eq_true h3) (Nat.eq_of_beq_eq_true h4) h1 (fun x hx => ?_) (env_of O (fn_all O d))
  have := List.all_eq_true.mp h5 x hx
  simp only [Bool.and_eq_true, Bool.not_eq_true'] at this
  exact ⟨eqS_ne this.1, eqS_ne this.2⟩
end
/-! ### the part of the heap that is looked at -/
/-- a function and its code, a class, its table and its methods -/
def objA (g : Addr → Option Obj) (a : Addr) : List Addr := match g a with
  | some ⟨_, _, .func fd, _⟩ => a :: He.refV fd.code
  | some ⟨_, _, .cls cd, _⟩ => a :: cd.ns :: (match g cd.ns with
    | some ⟨_, _, .dict es _, _⟩ => es.toList.flatMap fun e => match e.val with
      | .ref b => (match g b with
        | some ⟨_, _, .func fd, _⟩ => b :: He.refV fd.code
        | _ => [])
      | _ => []
    | _ => [])
  | _ => []
/-- the globals, and what these names stand for -/
def asV (g : Addr → Option Obj) (xs : List Str) : List Addr := mainGlobals :: match g mainGlobals with
  | some ⟨_, _, .dict es _, _⟩ => es.toList.flatMap fun e => match e.key, e.val with
    | .str x _, .ref a => if (xs.any fun y => eqS y x) = true then objA g a else []
    | _, _ => []
  | _ => []
def obsV (xs : List Str) (fa : List He.Fa) (fn : List He.DefD) (g : Addr → Option Obj) : He.AlD := He.obsD fa fn (He.frG g (asV g xs))
def hookV (xs : List Str) (fa : List He.Fa) (fn : List He.DefD) : PySem.W.Hook where
  α := He.AlD
  obs := fun s => obsV xs fa fn s.heap.get?
  val := fun _ => He.valD fn
  says := fun _ h => ∃ K : PySem.W.Frag, K.In h ∧ He.SaysD fa fn K
  of := fun _ _ e => ⟨_, He.frG_in, e⟩
  keeps := fun _ _ _ ⟨K, hK, c⟩ k => ⟨K, PySem.W.Frag.In.keeps hK k, c⟩
theorem obsV_eq {xs : List Str} {fa : List He.Fa} {fn : List He.DefD} {g : Addr → Option Obj} {s : Shared} (h : ∀ a, g a = s.heap.get? a) : obsV xs fa fn g = (hookV xs fa fn).obs s := by
  have e : g = s.heap.get? := funext h
  rw [e] <;> rfl
end VIS
end

section
set_option linter.all false
namespace VI
/-! how a term is run, as rewriting rules -/
def Nm {α : Type} (a : α) : α := a
@[simp] theorem Nm_eq {α : Type} {a : α} : Nm a = a := rfl
/-! #### where the rules look: not ahead -/
/-- a claim as it stands -/
def asP (p : Prop) : Prop := p
theorem cg_wpo {α : Type} {o o' : Option (α × St)} {Q : α → St → Prop} (h : o = o') : wpo o Q = wpo o' Q := by rw [h]
section
variable {P : Prog} {cl : Nat → List D → M D} {ρ : Env} {s : St}
variable {Q : D → St → Prop} {Qs : List D → St → Prop} {Qb : Bool → St → Prop} {Qe : Env → St → Prop} {Qf : Fl × Env → St → Prop}
theorem x_slot {i} : evalE P cl (.slot i) ρ = opt (slotD ρ i) := by rw [evalE]
@[simp ↓] theorem p_slot {i} : wp (evalE P cl (.slot i) ρ) Q s = wpo ((slotD ρ i).map fun d => (d, s)) Q := by rw [x_slot]; unfold wp opt; cases slotD ρ i <;> rfl
theorem x_cst {d} : evalE P cl (.cst d) ρ = ret d := by rw [evalE]
@[simp ↓] theorem p_cst {d} : wp (evalE P cl (.cst d) ρ) Q s = wp (ret d) Q s := by rw [x_cst]
theorem x_bop {o w a b} : evalE P cl (.bop o w a b) ρ = bnd (evalE P cl a ρ) fun x => bnd (evalE P cl b ρ) fun y => bopM o w x y := by rw [evalE]
@[simp ↓] theorem p_bop {o w a b} : wp (evalE P cl (.bop o w a b) ρ) Q s = wp (bnd (evalE P cl a ρ) fun x => bnd (evalE P cl b ρ) fun y => bopM o w x y) Q s := by rw [x_bop]
def negM (x : D) : M D := fun s => match x with
  | .int i => some (.int (-i), s)
  | _ => none
theorem negM_eq {x : D} : (match x with | .int i => ret (.int (-i)) | _ => fail : M D) = negM x := by
  funext s
  cases x <;> rfl
theorem x_neg {a} : evalE P cl (.neg a) ρ = bnd (evalE P cl a ρ) negM := by
  rw [evalE]
  congr 1
  funext x
  exact negM_eq
@[simp ↓] theorem p_neg {a} : wp (evalE P cl (.neg a) ρ) Q s = wp (bnd (evalE P cl a ρ) negM) Q s := by rw [x_neg]
theorem x_not {a} : evalE P cl (.not a) ρ = bnd (evalE P cl a ρ) fun x => bnd (truthM x) fun b => ret (.bl (!b)) := by rw [evalE]
@[simp ↓] theorem p_not {a} : wp (evalE P cl (.not a) ρ) Q s = wp (bnd (evalE P cl a ρ) fun x => bnd (truthM x) fun b => ret (.bl (!b))) Q s := by rw [x_not]
theorem x_and {l} : evalE P cl (.and l) ρ = evalAnd P cl l ρ := by rw [evalE]
@[simp ↓] theorem p_and {l} : wp (evalE P cl (.and l) ρ) Q s = wp (evalAnd P cl l ρ) Q s := by rw [x_and]
theorem x_or {l} : evalE P cl (.or l) ρ = evalOr P cl l ρ := by rw [evalE]
@[simp ↓] theorem p_or {l} : wp (evalE P cl (.or l) ρ) Q s = wp (evalOr P cl l ρ) Q s := by rw [x_or]
theorem x_cmp {o a b} : evalE P cl (.cmp o a b) ρ = bnd (evalE P cl a ρ) fun x => bnd (evalE P cl b ρ) fun y => bnd (copM o x y) fun r => ret (.bl r) := by rw [evalE]
@[simp ↓] theorem p_cmp {o a b} : wp (evalE P cl (.cmp o a b) ρ) Q s = wp (bnd (evalE P cl a ρ) fun x => bnd (evalE P cl b ρ) fun y => bnd (copM o x y) fun r => ret (.bl r)) Q s := by rw [x_cmp]
theorem x_chain {o o' a b c} : evalE P cl (.chain o o' a b c) ρ = bnd (evalE P cl a ρ) fun x => bnd (evalE P cl b ρ) fun y => bnd (copM o x y) fun r =>
      if r = true then bnd (evalE P cl c ρ) fun z => bnd (copM o' y z) fun r => ret (.bl r) else ret (.bl false) := by rw [evalE]
@[simp ↓] theorem p_chain {o o' a b c} : wp (evalE P cl (.chain o o' a b c) ρ) Q s = wp (bnd (evalE P cl a ρ) fun x => bnd (evalE P cl b ρ) fun y => bnd (copM o x y) fun r =>
      if r = true then bnd (evalE P cl c ρ) fun z => bnd (copM o' y z) fun r => ret (.bl r) else ret (.bl false)) Q s := by rw [x_chain]
theorem x_ite {c a b} : evalE P cl (.ite c a b) ρ = bnd (evalE P cl c ρ) fun x => bnd (truthM x) fun k => if k = true then evalE P cl a ρ else evalE P cl b ρ := by rw [evalE]
@[simp ↓] theorem p_ite {c a b} : wp (evalE P cl (.ite c a b) ρ) Q s = wp (bnd (evalE P cl c ρ) fun x => bnd (truthM x) fun k => if k = true then evalE P cl a ρ else evalE P cl b ρ) Q s := by rw [x_ite]
theorem x_tup {l} : evalE P cl (.tup l) ρ = bnd (evalEs P cl l ρ) fun ds => if ds.length ≤ LINE then ret (.tup ds) else fail := by rw [evalE]
@[simp ↓] theorem p_tup {l} : wp (evalE P cl (.tup l) ρ) Q s = wp (bnd (evalEs P cl l ρ) fun ds => if ds.length ≤ LINE then ret (.tup ds) else fail) Q s := by rw [x_tup]
theorem x_lst {w l} : evalE P cl (.lst w l) ρ = bnd (evalEs P cl l ρ) fun ds => if ds.length ≤ LINE then mk w ds else fail := by rw [evalE]
@[simp ↓] theorem p_lst {w l} : wp (evalE P cl (.lst w l) ρ) Q s = wp (bnd (evalEs P cl l ρ) fun ds => if ds.length ≤ LINE then mk w ds else fail) Q s := by rw [x_lst]
def dicM : M D := fun s => some (.ref s.length, s ++ [.dic false []])
theorem x_dic : evalE P cl .dic ρ = dicM := by rw [evalE]; rfl
@[simp ↓] theorem p_dic  : wp (evalE P cl .dic ρ) Q s = wp (dicM) Q s := by rw [x_dic]
theorem x_idx {a i} : evalE P cl (.idx a i) ρ = bnd (evalE P cl a ρ) fun x => bnd (evalE P cl i ρ) fun y => idxM x y := by rw [evalE]
@[simp ↓] theorem p_idx {a i} : wp (evalE P cl (.idx a i) ρ) Q s = wp (bnd (evalE P cl a ρ) fun x => bnd (evalE P cl i ρ) fun y => idxM x y) Q s := by rw [x_idx]
theorem x_slc {w a kl lo kh hi} : evalE P cl (.slc w a kl lo kh hi) ρ = bnd (evalE P cl a ρ) fun x => bnd (if kl = true then bnd (evalE P cl lo ρ) partI else ret none) fun y => bnd (if kh = true then bnd (evalE P cl hi ρ) partI else ret none) fun z => slcM w x y z := by rw [evalE]
@[simp ↓] theorem p_slc {w a kl lo kh hi} : wp (evalE P cl (.slc w a kl lo kh hi) ρ) Q s = wp (bnd (evalE P cl a ρ) fun x => bnd (if kl = true then bnd (evalE P cl lo ρ) partI else ret none) fun y => bnd (if kh = true then bnd (evalE P cl hi ρ) partI else ret none) fun z => slcM w x y z) Q s := by rw [x_slc]
theorem x_fld {a f} : evalE P cl (.fld a f) ρ = bnd (evalE P cl a ρ) fun x => fldM P.fld x f := by rw [evalE]
@[simp ↓] theorem p_fld {a f} : wp (evalE P cl (.fld a f) ρ) Q s = wp (bnd (evalE P cl a ρ) fun x => fldM P.fld x f) Q s := by rw [x_fld]
theorem x_call {f l ds} : evalE P cl (.call f l ds) ρ = bnd (evalEs P cl l ρ) fun vs => cl f (vs ++ ds) := by rw [evalE]
@[simp ↓] theorem p_call {f l ds} : wp (evalE P cl (.call f l ds) ρ) Q s = wp (bnd (evalEs P cl l ρ) fun vs => cl f (vs ++ ds)) Q s := by rw [x_call]
theorem x_bi {b w l} : evalE P cl (.bi b w l) ρ = bnd (evalEs P cl l ρ) fun vs => biM b w vs := by rw [evalE]
@[simp ↓] theorem p_bi {b w l} : wp (evalE P cl (.bi b w l) ρ) Q s = wp (bnd (evalEs P cl l ρ) fun vs => biM b w vs) Q s := by rw [x_bi]
theorem x_bm {m a l} : evalE P cl (.bm m a l) ρ = bnd (evalE P cl a ρ) fun x => bnd (kindM x) fun k => bnd (evalEs P cl l ρ) fun vs => bmM k m x vs := by rw [evalE]
@[simp ↓] theorem p_bm {m a l} : wp (evalE P cl (.bm m a l) ρ) Q s = wp (bnd (evalE P cl a ρ) fun x => bnd (kindM x) fun k => bnd (evalEs P cl l ρ) fun vs => bmM k m x vs) Q s := by rw [x_bm]
def isiM (t : Ty) (x : D) : M D := fun s => (isTy s x t).map fun b => (.bl b, s)
theorem x_isi {a t} : evalE P cl (.isi a t) ρ = bnd (evalE P cl a ρ) (isiM t) := by rw [evalE]; rfl
@[simp ↓] theorem p_isi {a t} : wp (evalE P cl (.isi a t) ρ) Q s = wp (bnd (evalE P cl a ρ) (isiM t)) Q s := by rw [x_isi]
noncomputable def makeC (P : Prog) (cl : Nat → List D → M D) (c : Nat) (vs : List D) : M D := match P.cls[c]? with
    | some k => fun s => bnd (cl k.init (.ref s.length :: vs)) (fun r => match r with
      | .non => ret (.ref s.length)
      | _ => fail) (s ++ [.ins c []])
    | none => fail
theorem x_make {c l} : evalE P cl (.make c l []) ρ = bnd (evalEs P cl l ρ) (makeC P cl c) := by
  rw [evalE]
  congr 1
  funext vs
  unfold makeC
  cases P.cls[c]? with
  | none => rfl
  | some k =>
    simp only [List.append_nil]
    rfl
@[simp ↓] theorem p_make {c l} : wp (evalE P cl (.make c l []) ρ) Q s = wp (bnd (evalEs P cl l ρ) (makeC P cl c)) Q s := by rw [x_make]
noncomputable def methC (P : Prog) (cl : Nat → List D → M D) (m : Nat) (x : D) (vs : M (List D)) : M D := match x with
    | .ref n => fun s => match s[n]? with
      | some (.ins c fs) => (match P.meth c m, valF fs m with
        | some f, none => bnd vs (fun vs => cl f (.ref n :: vs)) s
        | _, _ => none)
      | _ => none
    | _ => fail
theorem x_meth {a m l} : evalE P cl (.meth a m l []) ρ = bnd (evalE P cl a ρ) fun x => methC P cl m x (evalEs P cl l ρ) := by
  rw [evalE]
  congr 1
  funext x
  unfold methC
  cases x <;> first | rfl | (simp only [List.append_nil]; rfl)
@[simp ↓] theorem p_meth {a m l} : wp (evalE P cl (.meth a m l []) ρ) Q s = wp (bnd (evalE P cl a ρ) fun x => methC P cl m x (evalEs P cl l ρ)) Q s := by rw [x_meth]
theorem x_nil : evalEs P cl [] ρ = ret [] := by rw [evalEs]
@[simp ↓] theorem p_nil  : wp (evalEs P cl [] ρ) Qs s = wp (ret []) Qs s := by rw [x_nil]
theorem x_cons {e r} : evalEs P cl (e :: r) ρ = bnd (evalE P cl e ρ) fun x => bnd (evalEs P cl r ρ) fun xs => ret (x :: xs) := by rw [evalEs]
@[simp ↓] theorem p_cons {e r} : wp (evalEs P cl (e :: r) ρ) Qs s = wp (bnd (evalE P cl e ρ) fun x => bnd (evalEs P cl r ρ) fun xs => ret (x :: xs)) Qs s := by rw [x_cons]
theorem x_and1 {e} : evalAnd P cl [e] ρ = evalE P cl e ρ := by rw [evalAnd]
@[simp ↓] theorem p_and1 {e} : wp (evalAnd P cl [e] ρ) Q s = wp (evalE P cl e ρ) Q s := by rw [x_and1]
theorem x_and2 {e e' r} : evalAnd P cl (e :: e' :: r) ρ = bnd (evalE P cl e ρ) fun x => bnd (truthM x) fun k => if k = true then evalAnd P cl (e' :: r) ρ else ret x := by rw [evalAnd]
@[simp ↓] theorem p_and2 {e e' r} : wp (evalAnd P cl (e :: e' :: r) ρ) Q s = wp (bnd (evalE P cl e ρ) fun x => bnd (truthM x) fun k => if k = true then evalAnd P cl (e' :: r) ρ else ret x) Q s := by rw [x_and2]
theorem x_or1 {e} : evalOr P cl [e] ρ = evalE P cl e ρ := by rw [evalOr]
@[simp ↓] theorem p_or1 {e} : wp (evalOr P cl [e] ρ) Q s = wp (evalE P cl e ρ) Q s := by rw [x_or1]
theorem x_or2 {e e' r} : evalOr P cl (e :: e' :: r) ρ = bnd (evalE P cl e ρ) fun x => bnd (truthM x) fun k => if k = true then ret x else evalOr P cl (e' :: r) ρ := by rw [evalOr]
@[simp ↓] theorem p_or2 {e e' r} : wp (evalOr P cl (e :: e' :: r) ρ) Q s = wp (bnd (evalE P cl e ρ) fun x => bnd (truthM x) fun k => if k = true then ret x else evalOr P cl (e' :: r) ρ) Q s := by rw [x_or2]
theorem x_ts0 : evalTs P cl [] ρ = ret true := by rw [evalTs]
@[simp ↓] theorem p_ts0  : wp (evalTs P cl [] ρ) Qb s = wp (ret true) Qb s := by rw [x_ts0]
theorem x_ts1 {e r} : evalTs P cl (e :: r) ρ = bnd (evalE P cl e ρ) fun x => bnd (truthM x) fun k => if k = true then evalTs P cl r ρ else ret false := by rw [evalTs]
@[simp ↓] theorem p_ts1 {e r} : wp (evalTs P cl (e :: r) ρ) Qb s = wp (bnd (evalE P cl e ρ) fun x => bnd (truthM x) fun k => if k = true then evalTs P cl r ρ else ret false) Qb s := by rw [x_ts1]
theorem x_gslot {i d} : asgT P cl (.slot i) d ρ = ret (ρ.set i (some d)) := by rw [asgT]
@[simp ↓] theorem p_gslot {i d} : wp (asgT P cl (.slot i) d ρ) Qe s = wpo (some (Nm (ρ.set i (some d)), s)) Qe := by rw [x_gslot]; rfl
theorem x_gtup {l ds} : asgT P cl (.tup l) (.tup ds) ρ = asgTs P cl l ds ρ := by rw [asgT]
@[simp ↓] theorem p_gtup {l ds} : wp (asgT P cl (.tup l) (.tup ds) ρ) Qe s = wp (asgTs P cl l ds ρ) Qe s := by rw [x_gtup]
theorem x_gsub {a i d} : asgT P cl (.sub a i) d ρ = bnd (evalE P cl a ρ) fun x => bnd (evalE P cl i ρ) fun y => bnd (setItemM x y d) fun _ => ret ρ := by rw [asgT]
@[simp ↓] theorem p_gsub {a i d} : wp (asgT P cl (.sub a i) d ρ) Qe s = wp (bnd (evalE P cl a ρ) fun x => bnd (evalE P cl i ρ) fun y => bnd (setItemM x y d) fun _ => ret ρ) Qe s := by rw [x_gsub]
theorem x_gfld {a f d} : asgT P cl (.fld a f) d ρ = bnd (evalE P cl a ρ) fun x => bnd (setFldM P.fld x f d) fun _ => ret ρ := by rw [asgT]
@[simp ↓] theorem p_gfld {a f d} : wp (asgT P cl (.fld a f) d ρ) Qe s = wp (bnd (evalE P cl a ρ) fun x => bnd (setFldM P.fld x f d) fun _ => ret ρ) Qe s := by rw [x_gfld]
theorem x_gs0 : asgTs P cl [] [] ρ = ret ρ := by rw [asgTs]
@[simp ↓] theorem p_gs0  : wp (asgTs P cl [] [] ρ) Qe s = wp (ret ρ) Qe s := by rw [x_gs0]
theorem x_gs1 {t ts d ds} : asgTs P cl (t :: ts) (d :: ds) ρ = bnd (asgT P cl t d ρ) fun ρ' => asgTs P cl ts ds ρ' := by rw [asgTs]
@[simp ↓] theorem p_gs1 {t ts d ds} : wp (asgTs P cl (t :: ts) (d :: ds) ρ) Qe s = wp (bnd (asgT P cl t d ρ) fun ρ' => asgTs P cl ts ds ρ') Qe s := by rw [x_gs1]
theorem x_asg {t e} : execS P cl (.asg t e) ρ = bnd (evalE P cl e ρ) fun d => bnd (asgT P cl t d ρ) fun ρ' => ret (.next, ρ') := by rw [execS]
@[simp ↓] theorem p_asg {t e} : wp (execS P cl (.asg t e) ρ) Qf s = wp (bnd (evalE P cl e ρ) fun d => bnd (asgT P cl t d ρ) fun ρ' => ret (.next, ρ')) Qf s := by rw [x_asg]
theorem x_expr {e} : execS P cl (.expr e) ρ = bnd (evalE P cl e ρ) fun _ => ret (.next, ρ) := by rw [execS]
@[simp ↓] theorem p_expr {e} : wp (execS P cl (.expr e) ρ) Qf s = wp (bnd (evalE P cl e ρ) fun _ => ret (.next, ρ)) Qf s := by rw [x_expr]
theorem x_ret {e} : execS P cl (.ret e) ρ = bnd (evalE P cl e ρ) fun d => ret (.ret d, ρ) := by rw [execS]
@[simp ↓] theorem p_ret {e} : wp (execS P cl (.ret e) ρ) Qf s = wp (bnd (evalE P cl e ρ) fun d => ret (.ret d, ρ)) Qf s := by rw [x_ret]
theorem x_ife {c a b} : execS P cl (.ife c a b) ρ = bnd (evalE P cl c ρ) fun x => bnd (truthM x) fun k => if k = true then execSs P cl a ρ else execSs P cl b ρ := by rw [execS]
@[simp ↓] theorem p_ife {c a b} : wp (execS P cl (.ife c a b) ρ) Qf s = wp (bnd (evalE P cl c ρ) fun x => bnd (truthM x) fun k => if k = true then execSs P cl a ρ else execSs P cl b ρ) Qf s := by rw [x_ife]
theorem x_pass : execS P cl .pass ρ = ret (.next, ρ) := by rw [execS]
@[simp ↓] theorem p_pass  : wp (execS P cl .pass ρ) Qf s = wp (ret (.next, ρ)) Qf s := by rw [x_pass]
theorem x_brk : execS P cl .brk ρ = ret (.brk, ρ) := by rw [execS]
@[simp ↓] theorem p_brk  : wp (execS P cl .brk ρ) Qf s = wp (ret (.brk, ρ)) Qf s := by rw [x_brk]
theorem x_cont : execS P cl .cont ρ = ret (.cont, ρ) := by rw [execS]
@[simp ↓] theorem p_cont  : wp (execS P cl .cont ρ) Qf s = wp (ret (.cont, ρ)) Qf s := by rw [x_cont]
theorem x_for {t it l b} : execS P cl (.for t it l b) ρ = bnd (evalEs P cl l ρ) fun vs => bnd (iterM it vs) fun w => forL w.2 (fun d ρ => bnd (asgT P cl t d ρ) fun ρ' => execSs P cl b ρ') w.1 ρ := by rw [execS]
theorem x_whl {c b} : execS P cl (.whl c b) ρ = whileN (fun ρ => bnd (evalE P cl c ρ) truthM) (fun ρ => execSs P cl b ρ) FUEL ρ := by rw [execS]
def nextM (n : Env → M (Fl × Env)) (w : Fl × Env) : M (Fl × Env) := match w.1 with
    | .next => n w.2
    | _ => ret w
@[simp ↓] theorem nextM_next {n : Env → M (Fl × Env)} {ρ : Env} {Q : Fl × Env → St → Prop} {s : St} : wp (nextM n (.next, ρ)) Q s = wp (n ρ) Q s := rfl
@[simp ↓] theorem nextM_ret {n : Env → M (Fl × Env)} {ρ : Env} {d : D} {Q : Fl × Env → St → Prop} {s : St} : wp (nextM n (.ret d, ρ)) Q s = wp (ret (.ret d, ρ)) Q s := rfl
@[simp ↓] theorem nextM_brk {n : Env → M (Fl × Env)} {ρ : Env} {Q : Fl × Env → St → Prop} {s : St} : wp (nextM n (.brk, ρ)) Q s = wp (ret (.brk, ρ)) Q s := rfl
@[simp ↓] theorem nextM_cont {n : Env → M (Fl × Env)} {ρ : Env} {Q : Fl × Env → St → Prop} {s : St} : wp (nextM n (.cont, ρ)) Q s = wp (ret (.cont, ρ)) Q s := rfl
theorem x_s0 : execSs P cl [] ρ = ret (.next, ρ) := by rw [execSs]
@[simp ↓] theorem p_s0  : wp (execSs P cl [] ρ) Qf s = wp (ret (.next, ρ)) Qf s := by rw [x_s0]
theorem x_s1 {t r} : execSs P cl (t :: r) ρ = bnd (execS P cl t ρ) (nextM (execSs P cl r)) := by rw [execSs]; rfl
@[simp ↓] theorem p_s1 {t r} : wp (execSs P cl (t :: r) ρ) Qf s = wp (bnd (execS P cl t ρ) (nextM (execSs P cl r))) Qf s := by rw [x_s1]
end
section
variable {α β : Type} {Q : α → St → Prop} {s : St}
@[simp ↓] theorem w_ret {a : α} : wp (ret a) Q s = Q a s := rfl
@[simp ↓] theorem w_fail : wp (fail : M α) Q s = False := rfl
@[simp ↓] theorem w_bnd {m : M α} {f : α → M β} {Q : β → St → Prop} : wp (bnd m f) Q s = wp m (fun a s' => wp (f a) Q s') s := wp_bnd
@[simp ↓] theorem w_opt {a : α} : wp (opt (some a)) Q s = Q a s := rfl
@[simp ↓] theorem w_ite {c : Prop} [Decidable c] {m m' : M α} : wp (if c then m else m') Q s = if c then wp m Q s else wp m' Q s := wp_ite
@[simp] theorem wo_some {a : α} : wpo (some (a, s)) Q = Q a s := rfl
@[simp] theorem wo_ite {c : Prop} [Decidable c] {m m' : Option (α × St)} : wpo (if c then m else m') Q = if c then wpo m Q else wpo m' Q := wpo_ite
@[simp] theorem wo_map {b : β} {f : β → α × St} : wpo ((some b).map f) Q = Q (f b).1 (f b).2 := rfl
@[simp] theorem wo_none : wpo (none : Option (α × St)) Q = False := rfl
@[simp ↓] theorem w_bop {o w a b} {Q : D → St → Prop} : wp (bopM o w a b) Q s = wpo (bopM o w a b s) Q := rfl
@[simp ↓] theorem w_neg {a} {Q : D → St → Prop} : wp (negM a) Q s = wpo (negM a s) Q := rfl
@[simp ↓] theorem w_cop {o a b} {Q : Bool → St → Prop} : wp (copM o a b) Q s = wpo (copM o a b s) Q := rfl
@[simp ↓] theorem w_truth {a} {Q : Bool → St → Prop} : wp (truthM a) Q s = wpo (truthM a s) Q := rfl
@[simp ↓] theorem w_idx {a i} {Q : D → St → Prop} : wp (idxM a i) Q s = wpo (idxM a i s) Q := rfl
@[simp ↓] theorem w_slc {w a i j} {Q : D → St → Prop} : wp (slcM w a i j) Q s = wpo (slcM w a i j s) Q := rfl
@[simp ↓] theorem w_fld {F a i} {Q : D → St → Prop} : wp (fldM F a i) Q s = wpo (fldM F a i s) Q := rfl
@[simp ↓] theorem w_part {a} {Q : Option Int → St → Prop} : wp (partI a) Q s = wpo (partI a s) Q := rfl
@[simp ↓] theorem w_setItem {a i v} {Q : Unit → St → Prop} : wp (setItemM a i v) Q s = wpo (setItemM a i v s) Q := rfl
@[simp ↓] theorem w_setFld {F a i v} {Q : Unit → St → Prop} : wp (setFldM F a i v) Q s = wpo (setFldM F a i v s) Q := rfl
@[simp ↓] theorem w_bi {b w l} {Q : D → St → Prop} : wp (biM b w l) Q s = wpo (biM b w l s) Q := rfl
@[simp ↓] theorem w_bm {k m o l} {Q : D → St → Prop} : wp (bmM k m o l) Q s = wpo (bmM k m o l s) Q := rfl
@[simp ↓] theorem w_kind {o} {Q : Kd → St → Prop} : wp (kindM o) Q s = wpo (kindM o s) Q := rfl
@[simp ↓] theorem w_mk {w l} {Q : D → St → Prop} : wp (mk w l) Q s = wpo (mk w l s) Q := rfl
@[simp ↓] theorem w_iter {t l} {Q : List D × List (Nat × Cell) → St → Prop} : wp (iterM t l) Q s = wpo (iterM t l s) Q := rfl
@[simp ↓] theorem w_isi {t a} {Q : D → St → Prop} : wp (isiM t a) Q s = wpo (isiM t a s) Q := rfl
@[simp ↓] theorem w_dic {Q : D → St → Prop} : wp dicM Q s = Q (.ref s.length) (s ++ [.dic false []]) := rfl
@[simp ↓] theorem w_call {P k f vs} {Q : D → St → Prop} : wp (callAt P k f vs) Q s = wpo (callAt P k f vs s) Q := rfl
end
/-! #### the end of a call -/
section
variable {P : Prog} {k f : Nat} {vs : List D} {s : St} {Q : D → St → Prop}
def FinQ (s : St) (Q : D → St → Prop) (d : D) (s' : St) : Prop := (Drops s d s' → Q d (s'.take s.length)) ∧ (¬ Drops s d s' → Q d s')
def EndQ (s : St) (Q : D → St → Prop) (w : Fl × Env) (s' : St) : Prop := match w.1 with
  | .ret d => FinQ s Q d s'
  | .next => FinQ s Q .non s'
  | _ => False
@[simp] theorem EndQ_ret {d : D} {ρ : Env} {s' : St} : EndQ s Q (.ret d, ρ) s' = FinQ s Q d s' := rfl
@[simp] theorem EndQ_next {ρ : Env} {s' : St} : EndQ s Q (.next, ρ) s' = FinQ s Q .non s' := rfl
theorem FinQ_keep {d : D} {s' : St} (h : s'.length = s.length) (q : Q d s') : FinQ s Q d s' :=
  ⟨fun _ => by rw [← h, List.take_length]; exact q, fun _ => q⟩
@[simp] theorem FinQ_same {d : D} : FinQ s Q d s = Q d s := by
  refine propext ⟨fun h => ?_, fun q => FinQ_keep rfl q⟩
  by_cases c : Drops s d s
  · have := h.1 c; rwa [List.take_length] at this
  · exact h.2 c
theorem FinQ_new {d : D} {s' : St} (h : ¬ d.und s.length) (q : Q d s') : FinQ s Q d s' := ⟨fun c => absurd c.2.1 h, fun _ => q⟩
theorem FinQ_drop {d : D} {s' : St} (h : Drops s d s') (q : Q d (s'.take s.length)) : FinQ s Q d s' := ⟨fun _ => q, fun c => absurd h c⟩
/-- a call, by its body -/
theorem call_wp {fn : Fn} (hf : P.fns[f]? = some fn) (hl : vs.length = fn.np) (h : wp (execSs P (callAt P k) fn.body (vs.map some ++ List.replicate (fn.ns - fn.np) none)) (EndQ s Q) s) : wpo (callAt P (k + 1) f vs s) Q := by
  obtain ⟨⟨fl, ρ⟩, s', e, q⟩ := wp_iff.mp h
  have fin : ∀ d, runFn P (callAt P k) fn vs s = some (d, s') → FinQ s Q d s' → wpo (callAt P (k + 1) f vs s) Q := fun d e q => by
    have e1 : callAt P (k + 1) f vs s = dropped (runFn P (callAt P k) fn vs) s := by rw [callAt, hf]
    rw [e1]
    unfold dropped
    rw [e]
    simp only
    split
    · rename_i c; exact q.1 c
    · rename_i c; exact q.2 c
  cases fl with
  | ret d => exact fin d (by unfold runFn; rw [if_pos hl]; unfold bnd; rw [e]; rfl) q
  | next => exact fin .non (by unfold runFn; rw [if_pos hl]; unfold bnd; rw [e]; rfl) q
  | _ => exact q.elim
theorem wpo_eq {o : Option (D × St)} {d : D} {s' : St} (h : wpo o fun a t => a = d ∧ t = s') : o = some (d, s') := by
  cases o with
  | none => exact h.elim
  | some r =>
    obtain ⟨h1, h2⟩ := h
    rw [← h1, ← h2]
theorem call_eq {fn : Fn} {d : D} {s' : St} (hf : P.fns[f]? = some fn) (hl : vs.length = fn.np) (h : wp (execSs P (callAt P k) fn.body (vs.map some ++ List.replicate (fn.ns - fn.np) none)) (EndQ s fun a t => a = d ∧ t = s') s) : callAt P (k + 1) f vs s = some (d, s') := wpo_eq (call_wp hf hl h)
end
/-! #### operations, by the cell that is looked at -/
section
variable {s : St} {n : Nat} {l : List D} {kvs : List (Ky × D)} {lk : Bool} {i j k : Int} {w : Bool} {fs : List (Nat × D)} {c f : Nat} {F : Flds} {d v x y : D}
@[simp] theorem bop_ii {o} : bopM o w (.int i) (.int j) s = (bopI o i j).map fun k => (.int k, s) := rfl
@[simp] theorem bopI_add : bopI .add i j = some (i + j) := rfl
@[simp] theorem bopI_sub : bopI .sub i j = some (i - j) := rfl
theorem bopI_mul (h : (-(2 ^ 64) < i ∧ i < 2 ^ 64) ∨ (-(2 ^ 64) < j ∧ j < 2 ^ 64)) : bopI .mul i j = some (i * j) := if_pos (.inr h)
theorem bopI_mulW (h : natLog i + natLog j < 1000000) : bopI .mul i j = some (i * j) := if_pos (.inl h)
theorem bopI_fdiv (h : 0 < j) (h2 : natLog j < 9000) : bopI .fdiv i j = some (i / j) := if_pos ⟨h, h2⟩
theorem bopI_mod (h : 0 < j) : bopI .mod i j = some (i % j) := if_pos h
theorem bopI_pow (h : 0 ≤ j) (h2 : j ≤ 1000) (h3 : i.natAbs < 2 ^ 64) : bopI .pow i j = some (i ^ j.toNat) := if_pos ⟨h, h2, h3⟩
theorem bopI_band (h : 0 ≤ i) (h2 : 0 ≤ j) : bopI .band i j = some ((i.toNat &&& j.toNat : Nat) : Int) := if_pos ⟨h, h2⟩
def lstR : Option Cell → Option (List D)
  | some (.lst l) => some l
  | _ => none
@[simp] theorem lstR_some : lstR (some (.lst l)) = some l := rfl
@[simp] theorem lstOf_ref : lstOf s (.ref n) = lstR s[n]? := rfl
@[simp] theorem lstOf_lst : lstOf s (.lst l) = some l := rfl
@[simp] theorem rdOf_ref : rdOf s (.ref n) = lstR s[n]? := rfl
@[simp] theorem rdOf_lst : rdOf s (.lst l) = some l := rfl
@[simp] theorem rdOf_fro : rdOf s (.fro l) = some l := rfl
@[simp] theorem seqOf_ref : seqOf s (.ref n) = lstR s[n]? := rfl
@[simp] theorem seqOf_lst : seqOf s (.lst l) = some l := rfl
@[simp] theorem seqOf_tup : seqOf s (.tup l) = some l := rfl
@[simp] theorem mk_val : mk false l s = some (.lst l, s) := rfl
@[simp] theorem mk_new : mk true l s = some (.ref s.length, s ++ [.lst l]) := rfl
def repM (w : Bool) (o : Option (List D)) (k : Int) (s : St) : Option (D × St) := match o with
  | some l => if -(2 ^ 63) ≤ k ∧ k < 2 ^ 63 ∧ l.length * k.toNat ≤ LINE then mk w (List.replicate k.toNat l).flatten s else none
  | none => none
def catM (w : Bool) (o p : Option (List D)) (s : St) : Option (D × St) := match o, p with
  | some x, some y => if x.length + y.length ≤ LINE then mk w (x ++ y) s else none
  | _, _ => none
@[simp] theorem bop_rep_lst : bopM .mul w (.lst l) (.int k) s = repM w (some l) k s := rfl
@[simp] theorem bop_rep_ref : bopM .mul w (.ref n) (.int k) s = repM w (lstR s[n]?) k s := by
  rw [← lstOf_ref]
  simp only [bopM, repM]
  generalize lstOf s (.ref n) = o
  cases o <;> rfl
@[simp] theorem cat_rr {m : Nat} : bopM .add w (.ref n) (.ref m) s = catM w (lstR s[n]?) (lstR s[m]?) s := by
  rw [← lstOf_ref, ← lstOf_ref]
  simp only [bopM, catM]
  generalize lstOf s (.ref n) = o
  generalize lstOf s (.ref m) = p
  cases o <;> cases p <;> rfl
@[simp] theorem cat_rl {l : List D} : bopM .add w (.ref n) (.lst l) s = catM w (lstR s[n]?) (some l) s := by
  rw [← lstOf_ref]
  simp only [bopM, catM, lstOf_lst]
  generalize lstOf s (.ref n) = o
  cases o <;> rfl
@[simp] theorem cat_lr {l : List D} : bopM .add w (.lst l) (.ref n) s = catM w (some l) (lstR s[n]?) s := by
  rw [← lstOf_ref]
  simp only [bopM, catM, lstOf_lst]
  generalize lstOf s (.ref n) = o
  cases o <;> rfl
@[simp] theorem cat_ll {m : List D} : bopM .add w (.lst l) (.lst m) s = catM w (some l) (some m) s := rfl
@[simp] theorem repM_some : repM w (some l) k s = if -(2 ^ 63) ≤ k ∧ k < 2 ^ 63 ∧ l.length * k.toNat ≤ LINE then mk w (List.replicate k.toNat l).flatten s else none := rfl
@[simp] theorem catM_some {m : List D} : catM w (some l) (some m) s = if l.length + m.length ≤ LINE then mk w (l ++ m) s else none := rfl
@[simp] theorem idx_tup : idxM (.tup l) (.int k) s = (atI l k).map fun d => (d, s) := rfl
@[simp] theorem idx_lst : idxM (.lst l) (.int k) s = (atI l k).map fun d => (d, s) := rfl
@[simp] theorem idx_fro : idxM (.fro l) (.int k) s = (atI l k).map fun d => (d, s) := rfl
def idxR (o : Option Cell) (i : D) (s : St) : Option (D × St) := match o, i with
    | some (.lst l), .int k => (atI l k).map fun d => (d, s)
    | some (.dic _ kvs), i => (D.ky i).bind fun k => (valK kvs k).map fun d => (d, s)
    | _, _ => none
@[simp] theorem idx_ref : idxM (.ref n) d s = idxR s[n]? d s := rfl
@[simp] theorem idxR_lst : idxR (some (.lst l)) (.int k) s = (atI l k).map fun d => (d, s) := rfl
@[simp] theorem idxR_dic : idxR (some (.dic lk kvs)) d s = (D.ky d).bind fun k => (valK kvs k).map fun d => (d, s) := rfl
def fldR (F : Flds) (o : Option Cell) (f : Nat) (s : St) : Option (D × St) := match o with
    | some (.ins c fs) => if F c f = true then (valF fs f).map fun d => (d, s) else none
    | _ => none
@[simp] theorem fld_ref : fldM F (.ref n) f s = fldR F s[n]? f s := rfl
@[simp] theorem fldR_ins : fldR F (some (.ins c fs)) f s = if F c f = true then (valF fs f).map fun d => (d, s) else none := rfl
def setR (o : Option Cell) (n : Nat) (i v : D) (s : St) : Option (Unit × St) := match o, i with
    | some (.lst l), .int k => (ixN l.length k).map fun j => ((), s.set n (.lst (l.set j v)))
    | some (.dic false kvs), i => (match D.ky i with
      | some k => if kvs.length < LINE then some ((), s.set n (.dic false (putK kvs k v))) else none
      | none => none)
    | _, _ => none
@[simp] theorem set_ref {i : D} : setItemM (.ref n) i v s = setR s[n]? n i v s := rfl
@[simp] theorem setR_lst : setR (some (.lst l)) n (.int k) v s = (ixN l.length k).map fun j => ((), s.set n (.lst (l.set j v))) := rfl
@[simp] theorem setR_dic : setR (some (.dic false kvs)) n (.int k) v s = if kvs.length < LINE then some ((), s.set n (.dic false (putK kvs (.inl k) v))) else none := rfl
def setFR (F : Flds) (o : Option Cell) (n f : Nat) (v : D) (s : St) : Option (Unit × St) := match o with
    | some (.ins c fs) => if F c f = true then (if fs.length < 1000 then some ((), s.set n (.ins c (putF f v fs))) else none) else none
    | _ => none
@[simp] theorem setF_ref : setFldM F (.ref n) f v s = setFR F s[n]? n f v s := rfl
@[simp] theorem setFR_ins : setFR F (some (.ins c fs)) n f v s = if F c f = true then (if fs.length < 1000 then some ((), s.set n (.ins c (putF f v fs))) else none) else none := rfl
def kindR (o : Option Cell) (s : St) : Option (Kd × St) := match o with
    | some (.lst _) => some (.lst, s)
    | some (.dic _ _) => some (.dic, s)
    | _ => none
@[simp] theorem kind_ref : kindM (.ref n) s = kindR s[n]? s := rfl
@[simp] theorem kindR_lst : kindR (some (.lst l)) s = some (.lst, s) := rfl
@[simp] theorem kindR_dic : kindR (some (.dic lk kvs)) s = some (.dic, s) := rfl
def bmR (o : Option Cell) (k : Kd) (m : Bm) (n : Nat) (l : List D) (s : St) : Option (D × St) := match k, o with
    | .lst, some (.lst x) => bmL m n x l s
    | .dic, some (.dic lk kvs) => bmD m n lk kvs l s
    | _, _ => none
@[simp] theorem bm_ref {k : Kd} {m : Bm} : bmM k m (.ref n) l s = bmR s[n]? k m n l s := rfl
@[simp] theorem bmR_lst {m : Bm} {x : List D} : bmR (some (.lst x)) .lst m n l s = bmL m n x l s := rfl
@[simp] theorem bmR_dic {m : Bm} : bmR (some (.dic lk kvs)) .dic m n l s = bmD m n lk kvs l s := rfl
@[simp] theorem bmL_append {x : List D} : bmL .append n x [d] s = if x.length < LINE then some (.non, s.set n (.lst (x ++ [d]))) else none := rfl
theorem bmL_extend {x z : List D} (h : lstOf s d = some z) : bmL .extend n x [d] s = if x.length + z.length ≤ LINE then some (.non, s.set n (.lst (x ++ z))) else none := by
  unfold bmL; simp only [h]
def truthR (o : Option Cell) (s : St) : Option (Bool × St) := match o with
    | some (.lst l) => some (!l.isEmpty, s)
    | _ => none
@[simp] theorem truth_ref : truthM (.ref n) s = truthR s[n]? s := rfl
@[simp] theorem truthR_lst : truthR (some (.lst l)) s = some (!l.isEmpty, s) := rfl
@[simp] theorem truth_bl {b : Bool} : truthM (.bl b) s = some (b, s) := rfl
@[simp] theorem truth_int : truthM (.int i) s = some (i != 0, s) := rfl
@[simp] theorem truth_non : truthM .non s = some (false, s) := rfl
@[simp] theorem neg_int : negM (.int i) s = some (.int (-i), s) := rfl
@[simp] theorem cop_lt : copM .lt (.int i) (.int j) s = some (decide (i < j), s) := rfl
@[simp] theorem cop_le : copM .le (.int i) (.int j) s = some (decide (i ≤ j), s) := rfl
@[simp] theorem cop_gt : copM .gt (.int i) (.int j) s = some (decide (j < i), s) := rfl
@[simp] theorem cop_ge : copM .ge (.int i) (.int j) s = some (decide (j ≤ i), s) := rfl
@[simp] theorem cop_eq_ii : copM .eq (.int i) (.int j) s = some (i == j, s) := rfl
@[simp] theorem cop_ne_ii : copM .ne (.int i) (.int j) s = some (!(i == j), s) := rfl
@[simp] theorem cop_eq_bb {a b : Bool} : copM .eq (.bl a) (.bl b) s = some (a == b, s) := rfl
@[simp] theorem cop_eq_ss {a b : Txt} : copM .eq (.str a) (.str b) s = some (a == b, s) := rfl
@[simp] theorem cop_is_non : copM .is x .non s = some (D.isSame x .non, s) := rfl
@[simp] theorem cop_isnot_non : copM .isnot x .non s = some (!D.isSame x .non, s) := rfl
@[simp] theorem cop_isnot_bl {b : Bool} : copM .isnot x (.bl b) s = some (!D.isSame x (.bl b), s) := rfl
def memR (o : Option Cell) (a : D) : Option Bool := match o with
    | some (.dic _ kvs) => (D.ky a).map fun k => (valK kvs k).isSome
    | some (.lst l) => if inOk a l = true then some (l.any fun z => eqv z a) else none
    | _ => none
@[simp] theorem mem_ref : copM .mem x (.ref n) s = (memR s[n]? x).map fun r => (r, s) := rfl
@[simp] theorem notmem_ref : copM .notmem x (.ref n) s = (memR s[n]? x).map fun r => (!r, s) := rfl
@[simp] theorem memR_dic : memR (some (.dic lk kvs)) x = (D.ky x).map fun k => (valK kvs k).isSome := rfl
@[simp] theorem ky_int : D.ky (.int i) = some (.inl i) := rfl
@[simp] theorem len_tup : biM .len w [.tup l] s = some (.int l.length, s) := rfl
@[simp] theorem len_lst : biM .len w [.lst l] s = some (.int l.length, s) := rfl
@[simp] theorem len_fro : biM .len w [.fro l] s = some (.int l.length, s) := rfl
def lenR (o : Option Cell) (s : St) : Option (D × St) := match o with
      | some (.lst x) => some (.int x.length, s)
      | some (.dic _ kvs) => some (.int kvs.length, s)
      | _ => none
@[simp] theorem len_ref : biM .len w [.ref n] s = lenR s[n]? s := rfl
@[simp] theorem lenR_lst : lenR (some (.lst l)) s = some (.int l.length, s) := rfl
@[simp] theorem lenR_dic : lenR (some (.dic lk kvs)) s = some (.int kvs.length, s) := rfl
@[simp] theorem bi_int : biM .int w [.int i] s = some (.int i, s) := rfl
@[simp] theorem bi_min : biM .min w [.int i, .int j] s = some (.int (if j < i then j else i), s) := rfl
@[simp] theorem bi_max : biM .max w [.int i, .int j] s = some (.int (if j > i then j else i), s) := rfl
@[simp] theorem bi_tuple : biM .tuple w [d] s = (seqOf s d).map fun x => (.tup x, s) := rfl
def listM (w : Bool) (o : Option (List D)) (s : St) : Option (D × St) := match o with
    | some x => mk w x s
    | none => none
@[simp] theorem bi_list : biM .list w [d] s = listM w (seqOf s d) s := rfl
@[simp] theorem listM_some : listM w (some l) s = mk w l s := rfl
@[simp] theorem slot0 {d : D} {ρ : Env} : slotD (some d :: ρ) 0 = some d := rfl
@[simp] theorem slotS {o : Option D} {ρ : Env} {i : Nat} : slotD (o :: ρ) (i + 1) = slotD ρ i := by
  unfold slotD
  rw [List.getElem?_cons_succ]
@[simp] theorem set_get (h : n < s.length) {c : Cell} : (s.set n c)[n]? = some c := List.getElem?_set_self h
end
theorem lt_of {s : St} {n : Nat} {c : Cell} (h : s[n]? = some c) : n < s.length := (List.getElem?_eq_some_iff.mp h).1
end VI
end

section
set_option linter.all false
namespace K
open VI
def b_is_integer : List S :=
   [.ret (.and [.isi (.slot 0) .int, .not (.isi (.slot 0) .bool)])]
def b_is_shape : List S :=
   [.ife (.or [.not (.isi (.slot 0) .tuple), .cmp .gt (.bi .len false [.slot 0]) (.cst (.int 100))]) [.ret (.cst (.bl false))] [],
    .for (.slot 1) .seq [.slot 0] [.ife (.and [.cmp .isnot (.slot 1) (.cst (.bl true)), .cmp .isnot (.slot 1) (.cst (.bl false))]) [.ret (.cst (.bl false))] []],
    .ret (.cst (.bl true))]
def b_is_shapes : List S :=
   [.ife (.or [.not (.isi (.slot 0) .tuple), .cmp .gt (.bi .len false [.slot 0]) (.cst (.int 60))]) [.ret (.cst (.bl false))] [],
    .for (.slot 1) .seq [.slot 0] [.ife (.not (.call 1 [.slot 1] [])) [.ret (.cst (.bl false))] []],
    .ret (.cst (.bl true))]
def b_is_sizes : List S :=
   [.ife (.or [.not (.isi (.slot 0) .tuple), .cmp .ne (.bi .len false [.slot 0]) (.cst (.int 4))]) [.ret (.cst (.bl false))] [],
    .for (.slot 1) .seq [.slot 0] [.ife (.not (.call 0 [.slot 1] [])) [.ret (.cst (.bl false))] []],
    .asg (.tup [.slot 2, .slot 3, .slot 4, .slot 5]) (.slot 0),
    .ife (.or [.not (.chain .le .le (.cst (.int 16)) (.slot 2) (.cst (.int 4096))), .not (.chain .le .le (.cst (.int 0)) (.slot 3) (.cst (.int 4096)))]) [.ret (.cst (.bl false))] [],
    .ret (.and [.chain .le .le (.cst (.int 4)) (.slot 4) (.slot 2), .chain .le .le (.cst (.int 1)) (.slot 5) (.cst (.int 7))])]
def b_is_heap_kind : List S :=
   [.ret (.and [.call 0 [.slot 1] [], .chain .le .lt (.cst (.int (-3))) (.slot 1) (.bi .len false [.slot 0])])]
def b_is_size : List S :=
   [.ife (.not (.call 0 [.slot 2] [])) [.ret (.cst (.bl false))] [],
    .ife (.cmp .ge (.slot 1) (.cst (.int 0))) [.ret (.cmp .eq (.slot 2) (.bi .len false [.idx (.slot 0) (.slot 1)]))] [],
    .ret (.chain .le .le (.cst (.int 0)) (.slot 2) (.cst (.int 1000)))]
def b_need_shapes : List S :=
   [.ife (.not (.call 2 [.slot 0] [])) [.bad] []]
def b_need_sizes : List S :=
   [.ife (.not (.call 3 [.slot 0] [])) [.bad] []]
def b_need_kind : List S :=
   [.ife (.not (.call 4 [.slot 0, .slot 1] [])) [.bad] []]
def b_need_size : List S :=
   [.ife (.not (.call 5 [.slot 0, .slot 1, .slot 2] [])) [.bad] []]
def b_head_of : List S :=
   [.ret (.bop .add false (.bop .add false (.bop .mul false (.bop .add false (.slot 0) (.cst (.int 3))) (.cst (.int 64))) (.bop .mul false (.slot 1) (.cst (.int 4)))) (.slot 2))]
def b_kind_in : List S :=
   [.ret (.bop .sub false (.bop .fdiv false (.slot 0) (.cst (.int 64))) (.cst (.int 3)))]
def b_age_in : List S :=
   [.ret (.bop .band false (.bop .fdiv false (.slot 0) (.cst (.int 4))) (.cst (.int 15)))]
def b_colour_in : List S :=
   [.ret (.bop .band false (.slot 0) (.cst (.int 3)))]
def b_reference_flags : List S :=
   [.ife (.cmp .ge (.slot 1) (.cst (.int 0))) [.ret (.bi .list false [.idx (.slot 0) (.slot 1)])] [],
    .ret (.bop .mul false (.lst false [.cmp .eq (.slot 1) (.cst (.int (-2)))]) (.slot 2))]
def b_half_begin : List S :=
   [.ret (.bop .add false (.bop .add false (.idx (.slot 0) (.cst (.int 0))) (.bop .mul false (.slot 1) (.idx (.slot 0) (.cst (.int 1))))) (.cst (.int 1)))]
def b_old_begin : List S :=
   [.ret (.bop .add false (.bop .add false (.idx (.slot 0) (.cst (.int 0))) (.bop .mul false (.cst (.int 2)) (.idx (.slot 0) (.cst (.int 1))))) (.cst (.int 1)))]
def b_is_old : List S :=
   [.ret (.cmp .ge (.slot 1) (.call 16 [.fld (.slot 0) 0] []))]
def b_is_young : List S :=
   [.ret (.chain .lt .lt (.cst (.int 0)) (.slot 1) (.call 16 [.fld (.slot 0) 0] []))]
def b_room_of : List S :=
   [.ife (.cmp .le (.slot 1) (.idx (.fld (.slot 0) 0) (.cst (.int 0)))) [.ret (.tup [.fld (.slot 0) 1, .cst (.int 1)])] [],
    .ife (.call 17 [.slot 0, .slot 1] []) [.ret (.tup [.fld (.slot 0) 2, .call 16 [.fld (.slot 0) 0] []])] [],
    .asg (.slot 2) (.ite (.cmp .ge (.slot 1) (.call 15 [.fld (.slot 0) 0, .cst (.int 1)] [])) (.cst (.int 1)) (.cst (.int 0))),
    .ret (.tup [.idx (.fld (.slot 0) 3) (.slot 2), .call 15 [.fld (.slot 0) 0, .slot 2] []])]
def b_word_at : List S :=
   [.asg (.tup [.slot 2, .slot 3]) (.call 19 [.slot 0, .slot 1] []),
    .ret (.idx (.slot 2) (.bop .sub false (.slot 1) (.slot 3)))]
def b_lay_word : List S :=
   [.asg (.tup [.slot 3, .slot 4]) (.call 19 [.slot 0, .slot 1] []),
    .asg (.sub (.slot 3) (.bop .sub false (.slot 1) (.slot 4))) (.slot 2)]
def b_kind_at : List S :=
   [.ret (.call 11 [.call 20 [.slot 0, .slot 1] []] [])]
def b_many_at : List S :=
   [.ret (.call 20 [.slot 0, .bop .add false (.slot 1) (.cst (.int 1))] [])]
def b_colour_at : List S :=
   [.ret (.call 13 [.call 20 [.slot 0, .slot 1] []] [])]
def b_paint : List S :=
   [.asg (.slot 3) (.call 20 [.slot 0, .slot 1] []),
    .expr (.call 21 [.slot 0, .slot 1, .bop .add false (.bop .sub false (.slot 3) (.call 13 [.slot 3] [])) (.slot 2)] [])]
def b_body_of : List S :=
   [.asg (.tup [.slot 2, .slot 3]) (.call 19 [.slot 0, .slot 1] []),
    .asg (.slot 4) (.bop .add false (.bop .sub false (.slot 1) (.slot 3)) (.cst (.int 2))),
    .ret (.slc false (.slot 2) true (.slot 4) true (.bop .add false (.slot 4) (.idx (.slot 2) (.bop .sub false (.slot 4) (.cst (.int 1))))))]
def b_flags_at : List S :=
   [.ret (.call 14 [.fld (.slot 0) 4, .call 22 [.slot 0, .slot 1] [], .call 23 [.slot 0, .slot 1] []] [])]
def b_reference_slots : List S :=
   [.asg (.slot 2) (.call 27 [.slot 0, .slot 1] []),
    .ret (.comp false (.bop .add false (.bop .add false (.slot 1) (.cst (.int 2))) (.slot 3)) [3] false .range [.bi .len false [.slot 2]] [.idx (.slot 2) (.slot 3)])]
def b_objects_from : List S :=
   [.asg (.slot 2) (.lst true []),
    .asg (.slot 3) (.cst (.int 0)),
    .whl (.cmp .lt (.slot 3) (.bi .len false [.slot 0])) [.expr (.bm .append (.slot 2) [.bop .add false (.slot 1) (.slot 3)]),
    .asg (.slot 3) (.bop .add false (.bop .add false (.slot 3) (.cst (.int 2))) (.idx (.slot 0) (.bop .add false (.slot 3) (.cst (.int 1)))))],
    .ret (.slot 2)]
def b_put_behind : List S :=
   [.asg (.slot 6) (.bop .add false (.slot 1) (.bi .len false [.slot 0])),
    .expr (.bm .append (.slot 0) [.call 10 [.slot 2, .slot 3, .slot 4] []]),
    .expr (.bm .append (.slot 0) [.bi .len false [.slot 5]]),
    .expr (.bm .extend (.slot 0) [.slot 5]),
    .ret (.slot 6)]
def b_young_objects : List S :=
   [.asg (.slot 1) (.call 29 [.fld (.slot 0) 1, .cst (.int 1)] []),
    .ret (.bop .add false (.slot 1) (.call 29 [.idx (.fld (.slot 0) 3) (.fld (.slot 0) 5), .call 15 [.fld (.slot 0) 0, .fld (.slot 0) 5] []] []))]
def b_keep_slots : List S :=
   [.for (.slot 2) .seq [.slot 1] [.ife (.call 18 [.slot 0, .call 20 [.slot 0, .slot 2] []] []) [.asg (.sub (.fld (.slot 0) 6) (.slot 2)) (.cst (.bl true))] []]]
def b_need_address : List S :=
   [.ife (.or [.not (.call 0 [.slot 1] []), .cmp .notmem (.slot 1) (.fld (.slot 0) 7)]) [.bad] []]
def b_need_roots : List S :=
   [.ife (.or [.not (.isi (.slot 1) .tuple), .cmp .gt (.bi .len false [.slot 1]) (.cst (.int 40000))]) [.bad] [],
    .for (.slot 2) .seq [.slot 1] [.ife (.or [.not (.call 0 [.slot 2] []), .and [.cmp .ne (.slot 2) (.cst (.int 0)), .cmp .notmem (.slot 2) (.fld (.slot 0) 7)]]) [.bad] []]]
def b_shade : List S :=
   [.ife (.and [.cmp .ne (.slot 1) (.cst (.int 0)), .call 17 [.slot 0, .slot 1] [], .cmp .eq (.call 24 [.slot 0, .slot 1] []) (.cst (.int 0))]) [.expr (.call 25 [.slot 0, .slot 1, .cst (.int 1)] []),
    .expr (.bm .append (.fld (.slot 0) 8) [.slot 1])] []]
def b_shade_all : List S :=
   [.for (.slot 2) .seq [.slot 1] [.expr (.call 35 [.slot 0, .slot 2] [])]]
def b_move : List S :=
   [.asg (.slot 2) (.fld (.slot 0) 9),
    .asg (.slot 3) (.call 20 [.slot 2, .slot 1] []),
    .asg (.slot 4) (.call 26 [.slot 2, .slot 1] []),
    .asg (.slot 5) (.bop .add false (.call 12 [.slot 3] []) (.cst (.int 1))),
    .asg (.slot 6) (.cmp .le (.bop .add false (.bop .add false (.bi .len false [.fld (.slot 0) 10]) (.cst (.int 2))) (.bi .len false [.slot 4])) (.idx (.fld (.slot 2) 0) (.cst (.int 1)))),
    .ife (.and [.not (.fld (.slot 0) 11), .cmp .lt (.slot 5) (.idx (.fld (.slot 2) 0) (.cst (.int 3))), .slot 6]) [.asg (.slot 7) (.call 30 [.fld (.slot 0) 10, .fld (.slot 0) 12, .call 11 [.slot 3] [], .slot 5, .cst (.int 0), .slot 4] [])] [.asg (.slot 8) (.ite (.fld (.slot 2) 13) (.cst (.int 1)) (.cst (.int 0))),
    .asg (.slot 7) (.call 30 [.fld (.slot 2) 2, .call 16 [.fld (.slot 2) 0] [], .call 11 [.slot 3] [], .cst (.int 0), .slot 8, .slot 4] []),
    .ife (.fld (.slot 2) 13) [.expr (.bm .append (.fld (.slot 2) 8) [.slot 7])] []],
    .asg (.sub (.fld (.slot 0) 14) (.slot 1)) (.slot 7),
    .ret (.slot 7)]
def b_lead : List S :=
   [.ife (.not (.call 18 [.fld (.slot 0) 9, .slot 1] [])) [.ret (.slot 1)] [],
    .ife (.cmp .mem (.slot 1) (.fld (.slot 0) 14)) [.ret (.idx (.fld (.slot 0) 14) (.slot 1))] [],
    .ret (.call 37 [.slot 0, .slot 1] [])]
def b_lead_slots : List S :=
   [.for (.slot 2) .seq [.slot 1] [.expr (.call 21 [.fld (.slot 0) 9, .slot 2, .call 38 [.slot 0, .call 20 [.fld (.slot 0) 9, .slot 2] []] []] [])]]
def b_lead_moved : List S :=
   [.asg (.slot 1) (.fld (.slot 0) 9),
    .asg (.slot 2) (.call 16 [.fld (.slot 1) 0] []),
    .whl (.or [.cmp .lt (.fld (.slot 0) 15) (.bi .len false [.fld (.slot 0) 10]), .cmp .lt (.fld (.slot 0) 16) (.bi .len false [.fld (.slot 1) 2])]) [.ife (.cmp .lt (.fld (.slot 0) 15) (.bi .len false [.fld (.slot 0) 10])) [.asg (.slot 3) (.call 28 [.slot 1, .bop .add false (.fld (.slot 0) 12) (.fld (.slot 0) 15)] []),
    .asg (.fld (.slot 0) 15) (.bop .add true (.bop .add false (.fld (.slot 0) 15) (.cst (.int 2))) (.idx (.fld (.slot 0) 10) (.bop .add false (.fld (.slot 0) 15) (.cst (.int 1)))))] [.asg (.slot 3) (.call 28 [.slot 1, .bop .add false (.slot 2) (.fld (.slot 0) 16)] []),
    .asg (.fld (.slot 0) 16) (.bop .add true (.bop .add false (.fld (.slot 0) 16) (.cst (.int 2))) (.idx (.fld (.slot 1) 2) (.bop .add false (.fld (.slot 0) 16) (.cst (.int 1)))))],
    .expr (.call 39 [.slot 0, .slot 3] [])]]
def b_keep_anew : List S :=
   [.asg (.slot 2) (.fld (.slot 0) 9),
    .asg (.fld (.slot 2) 6) (.dic),
    .expr (.call 32 [.slot 2, .slot 1] []),
    .asg (.slot 3) (.bop .add false (.call 16 [.fld (.slot 2) 0] []) (.fld (.slot 0) 17)),
    .for (.slot 4) .seq [.call 29 [.slc false (.fld (.slot 2) 2) true (.fld (.slot 0) 17) false .bad, .slot 3] []] [.expr (.call 32 [.slot 2, .call 28 [.slot 2, .slot 4] []] [])]]
def b_moved_by : List S :=
   [.asg (.slot 3) (.make 0 [.slot 0, .slot 2] []),
    .asg (.slot 4) (.call 31 [.slot 0] []),
    .asg (.slot 5) (.bi .sorted false [.fld (.slot 0) 6]),
    .asg (.slot 6) (.bi .tuple false [.comp false (.call 38 [.slot 3, .slot 7] []) [7] false .seq [.slot 1] []]),
    .expr (.call 39 [.slot 3, .slot 5] []),
    .expr (.call 40 [.slot 3] []),
    .for (.slot 8) .seq [.slot 4] [.expr (.bm .pop (.fld (.slot 0) 7) [.slot 8])],
    .ford (.slot 8) .values (.fld (.slot 3) 14) [.asg (.sub (.fld (.slot 0) 7) (.slot 8)) (.cst (.bl true))],
    .asg (.fld (.slot 0) 1) (.lst true []),
    .asg (.sub (.fld (.slot 0) 3) (.fld (.slot 0) 5)) (.lst true []),
    .asg (.fld (.slot 0) 5) (.bop .sub true (.cst (.int 1)) (.fld (.slot 0) 5)),
    .expr (.call 41 [.slot 3, .slot 5] []),
    .ret (.slot 6)]
def b_picture_of : List S :=
   [.asg (.slot 1) (.idx (.fld (.slot 0) 3) (.fld (.slot 0) 5)),
    .asg (.slot 2) (.slc false (.fld (.slot 0) 8) true (.fld (.slot 0) 18) false .bad),
    .asg (.slot 3) (.bi .sorted false [.fld (.slot 0) 6]),
    .ret (.tup [.bi .tuple false [.fld (.slot 0) 1], .fld (.slot 0) 5, .bi .tuple false [.slot 1], .bi .tuple false [.fld (.slot 0) 2], .bi .tuple false [.slot 3], .bi .tuple false [.slot 2], .fld (.slot 0) 13])]
def b_begin_whole : List S :=
   [.asg (.slot 2) (.call 42 [.slot 0, .slot 1, .cst (.bl true)] []),
    .asg (.fld (.slot 0) 13) (.cst (.bl true)),
    .asg (.fld (.slot 0) 8) (.lst true []),
    .asg (.fld (.slot 0) 18) (.cst (.int 0)),
    .expr (.call 36 [.slot 0, .slot 2] []),
    .ret (.slot 2)]
def b_l_feed : List S :=
   [.asg (.slot 2) (.bop .add false (.bop .mul false (.cst (.int 977)) (.slot 1)) (.bi .sum false [.slc false (.slot 0) false .bad true (.cst (.int 1))])),
    .ife (.cmp .lt (.slot 1) (.bi .len false [.slot 0])) [.asg (.slot 2) (.idx (.slot 0) (.slot 1))] [],
    .ret (.lst true [.bi .max false [.cst (.int 0), .bop .sub false (.slot 2) (.bop .pow false (.cst (.int 10)) (.cst (.int 18)))], .bop .mod false (.bi .int false [.bop .add false (.bop .mul false (.slot 2) (.cst (.int 19))) (.bop .mul false (.cst (.int 7)) (.slot 1))]) (.bop .add false (.bop .pow false (.cst (.int 10)) (.cst (.int 39))) (.cst (.int 23))), .cst (.int 0)])]
def b_l_draw : List S :=
   [.ife (.cmp .gt (.idx (.slot 0) (.cst (.int 0))) (.cst (.int 0))) [.asg (.slot 2) (.bop .fdiv false (.idx (.slot 0) (.cst (.int 0))) (.slot 1)),
    .asg (.slot 3) (.bop .sub false (.idx (.slot 0) (.cst (.int 0))) (.bop .mul false (.slot 2) (.slot 1))),
    .asg (.sub (.slot 0) (.cst (.int 0))) (.slot 2),
    .ret (.slot 3)] [],
    .asg (.sub (.slot 0) (.cst (.int 2))) (.bop .add false (.idx (.slot 0) (.cst (.int 2))) (.cst (.int 1))),
    .asg (.slot 4) (.bop .add false (.idx (.slot 0) (.cst (.int 1))) (.bop .mul false (.cst (.int 6700417)) (.idx (.slot 0) (.cst (.int 2))))),
    .asg (.slot 4) (.bop .mod false (.bi .int false [.bop .add false (.bop .mul false (.bop .mul false (.slot 4) (.slot 4)) (.slot 4)) (.bop .mul false (.cst (.int 15485863)) (.idx (.slot 0) (.cst (.int 2))))]) (.bop .add false (.bop .pow false (.cst (.int 10)) (.cst (.int 43))) (.cst (.int 57)))),
    .asg (.slot 4) (.bop .mod false (.bi .int false [.bop .add false (.bop .mul false (.slot 4) (.slot 4)) (.cst (.int 32452843))]) (.bop .add false (.bop .pow false (.cst (.int 10)) (.cst (.int 38))) (.cst (.int 133)))),
    .ret (.bop .mod false (.bi .int false [.bop .fdiv false (.slot 4) (.bop .pow false (.cst (.int 10)) (.cst (.int 9)))]) (.slot 1))]
def b_l_one : List S :=
   [.ret (.idx (.slot 1) (.call 46 [.slot 0, .bi .len false [.slot 1]] []))]
def b_l_same : List S :=
   [.ife (.isi (.slot 1) .tuple) [.ife (.or [.not (.isi (.slot 0) .tuple), .cmp .ne (.bi .len false [.slot 0]) (.bi .len false [.slot 1])]) [.ret (.cst (.bl false))] [],
    .for (.slot 2) .range [.bi .len false [.slot 1]] [.ife (.not (.call 48 [.idx (.slot 0) (.slot 2), .idx (.slot 1) (.slot 2)] [])) [.ret (.cst (.bl false))] []],
    .ret (.cst (.bl true))] [],
    .ife (.or [.isi (.slot 1) .bool, .isi (.slot 0) .bool]) [.ret (.and [.isi (.slot 1) .bool, .isi (.slot 0) .bool, .cmp .eq (.slot 0) (.slot 1)])] [],
    .ife (.isi (.slot 1) .int) [.ret (.and [.isi (.slot 0) .int, .cmp .eq (.slot 0) (.slot 1)])] [],
    .ret (.and [.isi (.slot 1) .str, .isi (.slot 0) .str, .cmp .eq (.slot 0) (.slot 1)])]
def b_l_wide : List S :=
   [.asg (.tup [.slot 1, .slot 2, .slot 3, .slot 4]) (.tup [.call 46 [.slot 0, .cst (.int 61)] [], .call 46 [.slot 0, .cst (.int 101)] [], .call 46 [.slot 0, .cst (.int 97)] [], .call 46 [.slot 0, .cst (.int 89)] []]),
    .asg (.slot 5) (.comp false (.comp false (.cmp .lt (.bop .mod false (.bi .int false [.bop .add false (.bop .add false (.bop .mul false (.bop .mul false (.slot 3) (.slot 6)) (.slot 6)) (.bop .mul false (.slot 4) (.slot 6))) (.slot 7)]) (.cst (.int 5))) (.cst (.int 2))) [6] false .range [.bop .mod false (.bi .int false [.bop .add false (.slot 2) (.bop .mul false (.cst (.int 7)) (.slot 7))]) (.cst (.int 101))] []) [7] false .range [.slot 1] []),
    .asg (.slot 8) (.bop .add false (.cst (.int 16)) (.call 46 [.slot 0, .cst (.int 4081)] [])),
    .asg (.slot 9) (.tup [.slot 8, .call 46 [.slot 0, .cst (.int 4097)] [], .bop .add false (.cst (.int 4)) (.call 46 [.slot 0, .bop .sub false (.slot 8) (.cst (.int 3))] []), .bop .add false (.cst (.int 1)) (.call 46 [.slot 0, .cst (.int 7)] [])]),
    .ret (.tup [.bi .tuple false [.comp false (.bi .tuple false [.slot 10]) [10] false .seq [.slot 5] []], .slot 9])]
def b_l_shapes : List S :=
   [.asg (.tup [.slot 1, .slot 2]) (.tup [.bop .add false (.cst (.int 1)) (.call 46 [.slot 0, .cst (.int 3)] []), .call 46 [.slot 0, .cst (.int 16)] []]),
    .ife (.cmp .eq (.slot 2) (.cst (.int 1))) [.asg (.slot 1) (.cst (.int 9))] [],
    .asg (.slot 3) (.comp true (.comp false (.cmp .eq (.call 46 [.slot 0, .cst (.int 2)] []) (.cst (.int 0))) [4] false .range [.call 46 [.slot 0, .cst (.int 5)] []] []) [5] false .range [.slot 1] []),
    .ife (.chain .lt .lt (.cst (.int 1)) (.slot 2) (.cst (.int 6))) [.asg (.slot 6) (.call 46 [.slot 0, .slot 1] []),
    .asg (.sub (.slot 3) (.slot 6)) (.comp false (.cmp .eq (.call 46 [.slot 0, .cst (.int 2)] []) (.cst (.int 0))) [4] false .range [.bop .add false (.cst (.int 5)) (.call 46 [.slot 0, .cst (.int 10)] [])] [])] [],
    .ife (.cmp .eq (.slot 2) (.cst (.int 6))) [.asg (.tup [.slot 7, .slot 8]) (.tup [.call 46 [.slot 0, .cst (.int 97)] [], .call 46 [.slot 0, .cst (.int 89)] []]),
    .asg (.sub (.slot 3) (.cst (.int 0))) (.comp false (.cmp .lt (.bop .mod false (.bi .int false [.bop .add false (.bop .mul false (.bop .mul false (.slot 7) (.slot 4)) (.slot 4)) (.bop .mul false (.slot 8) (.slot 4))]) (.cst (.int 5))) (.cst (.int 2))) [4] false .range [.call 46 [.slot 0, .cst (.int 101)] []] [])] [],
    .ret (.bi .tuple false [.comp false (.bi .tuple false [.slot 9]) [9] false .seq [.slot 3] []])]
def b_l_sizes : List S :=
   [.asg (.slot 1) (.call 47 [.slot 0, .lst false [.cst (.int 16), .cst (.int 16), .cst (.int 20), .cst (.int 40), .cst (.int 300)]] []),
    .ret (.tup [.slot 1, .call 47 [.slot 0, .lst false [.cst (.int 0), .cst (.int 4), .cst (.int 12), .cst (.int 30)]] [], .call 47 [.slot 0, .lst false [.cst (.int 4), .cst (.int 6), .cst (.int 10), .cst (.int 16)]] [], .bop .add false (.cst (.int 1)) (.call 46 [.slot 0, .cst (.int 7)] [])])]
def b_l_number : List S :=
   [.asg (.slot 2) (.call 46 [.slot 0, .cst (.int 6)] []),
    .ife (.cmp .lt (.slot 2) (.cst (.int 3))) [.ret (.bi .min false [.cst (.int 1000), .bop .add false (.bop .sub false (.idx (.slot 1) (.cst (.int 2))) (.cst (.int 3))) (.slot 2)])] [],
    .ret (.ite (.cmp .eq (.slot 2) (.cst (.int 3))) (.call 47 [.slot 0, .lst false [.cst (.int 0), .cst (.int 1), .cst (.int 2), .cst (.int 5), .cst (.int 1000), .call 46 [.slot 0, .cst (.int 1001)] []]] []) (.call 46 [.slot 0, .cst (.int 9)] []))]
def b_l_head : List S :=
   [.ret (.bop .add false (.lst false [.bop .add false (.bop .mul false (.bop .add false (.slot 0) (.cst (.int 3))) (.cst (.int 64))) (.slot 1), .slot 2]) (.bop .mul false (.lst false [.cst (.int 0)]) (.slot 2)))]
def b_l_told : List S :=
   [.ret (.call 48 [.tup [.meth (.slot 0) 19 [.slot 1] [], .meth (.slot 0) 20 [.slot 1] [], .meth (.slot 0) 21 [.slot 1] []], .slot 2] [])]
def b_l_makes : List S :=
   [.asg (.tup [.slot 5, .slot 6, .slot 7]) (.tup [.lst false [], .lst false [], .lst true []]),
    .asg (.slot 8) (.bop .add false (.bop .add false (.cst (.int 1)) (.idx (.slot 3) (.cst (.int 0)))) (.bop .mul false (.cst (.int 2)) (.idx (.slot 3) (.cst (.int 1))))),
    .for (.slot 9) .range [.cst (.int 1), .bi .max false [.cst (.int 4), .bi .min false [.cst (.int 64), .bi .len false [.slot 0]]]] [.asg (.slot 10) (.call 45 [.slot 0, .slot 9] []),
    .for (.slot 11) .range [.bop .add false (.cst (.int 1)) (.call 46 [.slot 10, .cst (.int 6)] [])] [.asg (.slot 12) (.bop .sub false (.call 46 [.slot 10, .bop .add false (.bi .len false [.slot 2]) (.cst (.int 3))] []) (.cst (.int 3))),
    .asg (.slot 13) (.ite (.cmp .lt (.slot 12) (.cst (.int 0))) (.call 52 [.slot 10, .slot 3] []) (.bi .len false [.idx (.slot 2) (.slot 12)])),
    .asg (.slot 14) (.cmp .gt (.bop .add false (.cst (.int 2)) (.slot 13)) (.idx (.slot 3) (.cst (.int 2)))),
    .ife (.and [.cmp .lt (.bop .add false (.bop .add false (.bi .len false [.slot 5]) (.bi .len false [.slot 6])) (.slot 13)) (.cst (.int 3000)), .or [.slot 14, .cmp .le (.bop .add false (.bop .add false (.bi .len false [.slot 5]) (.cst (.int 2))) (.slot 13)) (.idx (.slot 3) (.cst (.int 0)))]]) [.asg (.slot 15) (.bi .tuple false [.bop .add false (.comp false (.ite (.cmp .ne (.slot 7) (.lst false [])) (.idx (.call 47 [.slot 10, .slot 7] []) (.cst (.int 0))) (.cst (.int 0))) [16] false .range [.call 46 [.slot 10, .cst (.int 6)] []] []) (.lst false [.cst (.int 0)])]),
    .asg (.slot 17) (.ite (.slot 14) (.tup [.bop .add false (.slot 8) (.bi .len false [.slot 6]), .slot 15]) (.tup [.bop .add false (.cst (.int 1)) (.bi .len false [.slot 5]), .slot 15])),
    .ife (.not (.call 48 [.meth (.slot 1) 22 [.slot 12, .slot 13, .slot 15] [], .slot 17] [])) [.ret (.cst (.non))] [],
    .ife (.slot 14) [.asg (.slot 6) (.bop .add false (.slot 6) (.call 53 [.slot 12, .ite (.slot 4) (.cst (.int 2)) (.cst (.int 0)), .slot 13] []))] [.asg (.slot 5) (.bop .add false (.slot 5) (.call 53 [.slot 12, .cst (.int 0), .slot 13] []))],
    .expr (.bm .append (.slot 7) [.tup [.idx (.slot 17) (.cst (.int 0)), .tup [.slot 12, .slot 13, .ite (.slot 14) (.cst (.str [111, 108, 100])) (.cst (.str [110, 117, 114, 115, 101, 114, 121]))]]]),
    .ife (.not (.call 54 [.slot 1, .idx (.slot 17) (.cst (.int 0)), .idx (.idx (.slot 7) (.neg (.cst (.int 1)))) (.cst (.int 1))] [])) [.ret (.cst (.non))] []] []]],
    .for (.tup [.slot 18, .slot 17]) .seq [.slot 7] [.ife (.not (.call 54 [.slot 1, .slot 18, .slot 17] [])) [.ret (.cst (.non))] []],
    .ret (.tup [.bi .tuple false [.slot 5], .bi .tuple false [.slot 6], .bi .len false [.comp false (.cst (.int 1)) [16] false .seq [.slot 7] [.cmp .eq (.idx (.idx (.slot 16) (.cst (.int 1))) (.cst (.int 2))) (.cst (.str [110, 117, 114, 115, 101, 114, 121]))]], .bi .len false [.slot 7]])]
def b_law : List S :=
   [.asg (.slot 1) (.call 45 [.slot 0, .cst (.int 0)] []),
    .asg (.tup [.slot 2, .slot 3]) (.tup [.cmp .eq (.call 46 [.slot 1, .cst (.int 3)] []) (.cst (.int 0)), .cmp .eq (.call 46 [.slot 1, .cst (.int 2)] []) (.cst (.int 0))]),
    .asg (.tup [.slot 4, .slot 5]) (.ite (.slot 3) (.call 49 [.slot 1] []) (.tup [.call 50 [.slot 1] [], .call 51 [.slot 1] []])),
    .asg (.tup [.slot 6, .slot 7]) (.tup [.make 1 [.slot 4, .slot 5] [], .make 1 [.slot 4, .slot 5] []]),
    .ife (.and [.slot 2, .cmp .ne (.meth (.slot 6) 23 [.tup []] []) (.tup [])]) [.ret (.cst (.bl false))] [],
    .asg (.slot 8) (.call 55 [.slot 0, .slot 6, .slot 4, .slot 5, .slot 2] []),
    .ife (.cmp .is (.slot 8) (.cst (.non))) [.ret (.cst (.bl false))] [],
    .asg (.tup [.slot 9, .slot 10, .slot 11, .slot 12]) (.slot 8),
    .asg (.slot 13) (.ite (.slot 2) (.cst (.int 1)) (.cst (.int 0))),
    .ife (.not (.call 48 [.meth (.slot 6) 24 [] [], .tup [.slot 9, .slot 13, .tup [], .slot 10, .tup [], .tup [], .slot 2]] [])) [.ret (.cst (.bl false))] [],
    .ife (.not (.call 48 [.meth (.slot 6) 25 [] [], .tup [.bi .len false [.slot 9], .cst (.int 0), .bi .len false [.slot 10], .slot 11, .cst (.int 0), .bop .sub false (.slot 12) (.slot 11)]] [])) [.ret (.cst (.bl false))] [],
    .ife (.not (.call 48 [.tup [.meth (.slot 6) 26 [] [], .meth (.slot 6) 27 [] [], .meth (.slot 7) 27 [] []], .tup [.tup [], .slot 2, .cst (.bl false)]] [])) [.ret (.cst (.bl false))] [],
    .ret (.call 48 [.meth (.slot 7) 24 [] [], .tup [.tup [], .cst (.int 0), .tup [], .tup [], .tup [], .tup [], .cst (.bl false)]] [])]
def b_Moving_init : List S :=
   [.asg (.fld (.slot 0) 9) (.slot 1),
    .asg (.fld (.slot 0) 11) (.slot 2),
    .asg (.fld (.slot 0) 14) (.dic),
    .asg (.fld (.slot 0) 10) (.idx (.fld (.slot 1) 3) (.bop .sub false (.cst (.int 1)) (.fld (.slot 1) 5))),
    .asg (.fld (.slot 0) 12) (.call 15 [.fld (.slot 1) 0, .bop .sub false (.cst (.int 1)) (.fld (.slot 1) 5)] []),
    .asg (.fld (.slot 0) 17) (.bi .len true [.fld (.slot 1) 2]),
    .asg (.fld (.slot 0) 15) (.cst (.int 0)),
    .asg (.fld (.slot 0) 16) (.bi .len true [.fld (.slot 1) 2])]
def b_Heap_init : List S :=
   [.expr (.call 6 [.slot 1] []),
    .expr (.call 7 [.slot 2] []),
    .asg (.fld (.slot 0) 4) (.slot 1),
    .asg (.fld (.slot 0) 0) (.slot 2),
    .asg (.fld (.slot 0) 1) (.lst true []),
    .asg (.fld (.slot 0) 3) (.lst true [.lst true [], .lst true []]),
    .asg (.fld (.slot 0) 5) (.cst (.int 0)),
    .asg (.fld (.slot 0) 2) (.lst true []),
    .asg (.fld (.slot 0) 6) (.dic),
    .asg (.fld (.slot 0) 8) (.lst true []),
    .asg (.fld (.slot 0) 18) (.cst (.int 0)),
    .asg (.fld (.slot 0) 13) (.cst (.bl false)),
    .asg (.fld (.slot 0) 7) (.dic)]
def b_Heap_make : List S :=
   [.expr (.call 8 [.fld (.slot 0) 4, .slot 1] []),
    .expr (.call 9 [.fld (.slot 0) 4, .slot 1, .slot 2] []),
    .expr (.call 34 [.slot 0, .slot 3] []),
    .ife (.cmp .gt (.bop .add false (.cst (.int 2)) (.slot 2)) (.idx (.fld (.slot 0) 0) (.cst (.int 2)))) [.asg (.slot 4) (.ite (.fld (.slot 0) 13) (.cst (.int 2)) (.cst (.int 0))),
    .asg (.slot 5) (.call 30 [.fld (.slot 0) 2, .call 16 [.fld (.slot 0) 0] [], .slot 1, .cst (.int 0), .slot 4, .bop .mul false (.lst false [.cst (.int 0)]) (.slot 2)] [])] [.ife (.cmp .gt (.bop .add false (.bop .add false (.bi .len false [.fld (.slot 0) 1]) (.cst (.int 2))) (.slot 2)) (.idx (.fld (.slot 0) 0) (.cst (.int 0)))) [.asg (.slot 3) (.call 42 [.slot 0, .slot 3, .cst (.bl false)] [])] [],
    .asg (.slot 5) (.call 30 [.fld (.slot 0) 1, .cst (.int 1), .slot 1, .cst (.int 0), .cst (.int 0), .bop .mul false (.lst false [.cst (.int 0)]) (.slot 2)] [])],
    .asg (.sub (.fld (.slot 0) 7) (.slot 5)) (.cst (.bl true)),
    .ret (.tup [.slot 5, .slot 3])]
def b_Heap_kind : List S :=
   [.expr (.call 33 [.slot 0, .slot 1] []),
    .ret (.call 22 [.slot 0, .slot 1] [])]
def b_Heap_slots : List S :=
   [.expr (.call 33 [.slot 0, .slot 1] []),
    .ret (.call 23 [.slot 0, .slot 1] [])]
def b_Heap_where : List S :=
   [.expr (.call 33 [.slot 0, .slot 1] []),
    .ife (.call 17 [.slot 0, .slot 1] []) [.ret (.cst (.str [111, 108, 100]))] [],
    .ife (.cmp .gt (.slot 1) (.idx (.fld (.slot 0) 0) (.cst (.int 0)))) [.ret (.cst (.str [104, 97, 108, 102]))] [],
    .ret (.cst (.str [110, 117, 114, 115, 101, 114, 121]))]
def b_Heap_remembered : List S :=
   [.ret (.bi .tuple false [.bi .sorted false [.fld (.slot 0) 6]])]
def b_Heap_counts : List S :=
   [.asg (.slot 1) (.idx (.fld (.slot 0) 3) (.fld (.slot 0) 5)),
    .asg (.slot 2) (.bi .len false [.call 29 [.fld (.slot 0) 1, .cst (.int 1)] []]),
    .asg (.slot 3) (.bi .len false [.call 29 [.slot 1, .call 15 [.fld (.slot 0) 0, .fld (.slot 0) 5] []] []]),
    .ret (.tup [.bi .len false [.fld (.slot 0) 1], .bi .len false [.slot 1], .bi .len false [.fld (.slot 0) 2], .slot 2, .slot 3, .bop .sub false (.bop .sub false (.bi .len false [.fld (.slot 0) 7]) (.slot 2)) (.slot 3)])]
def b_Heap_begin : List S :=
   [.expr (.call 34 [.slot 0, .slot 1] []),
    .ife (.fld (.slot 0) 13) [.bad] [],
    .ret (.call 44 [.slot 0, .slot 1] [])]
def b_Heap_is_marking : List S :=
   [.ret (.fld (.slot 0) 13)]
def b_Heap_picture : List S :=
   [.ret (.call 43 [.slot 0] [])]
abbrev f_is_integer : Fn := ⟨1, 1, b_is_integer⟩
abbrev f_is_shape : Fn := ⟨1, 2, b_is_shape⟩
abbrev f_is_shapes : Fn := ⟨1, 2, b_is_shapes⟩
abbrev f_is_sizes : Fn := ⟨1, 6, b_is_sizes⟩
abbrev f_is_heap_kind : Fn := ⟨2, 2, b_is_heap_kind⟩
abbrev f_is_size : Fn := ⟨3, 3, b_is_size⟩
abbrev f_need_shapes : Fn := ⟨1, 1, b_need_shapes⟩
abbrev f_need_sizes : Fn := ⟨1, 1, b_need_sizes⟩
abbrev f_need_kind : Fn := ⟨2, 2, b_need_kind⟩
abbrev f_need_size : Fn := ⟨3, 3, b_need_size⟩
abbrev f_head_of : Fn := ⟨3, 3, b_head_of⟩
abbrev f_kind_in : Fn := ⟨1, 1, b_kind_in⟩
abbrev f_age_in : Fn := ⟨1, 1, b_age_in⟩
abbrev f_colour_in : Fn := ⟨1, 1, b_colour_in⟩
abbrev f_reference_flags : Fn := ⟨3, 3, b_reference_flags⟩
abbrev f_half_begin : Fn := ⟨2, 2, b_half_begin⟩
abbrev f_old_begin : Fn := ⟨1, 1, b_old_begin⟩
abbrev f_is_old : Fn := ⟨2, 2, b_is_old⟩
abbrev f_is_young : Fn := ⟨2, 2, b_is_young⟩
abbrev f_room_of : Fn := ⟨2, 3, b_room_of⟩
abbrev f_word_at : Fn := ⟨2, 4, b_word_at⟩
abbrev f_lay_word : Fn := ⟨3, 5, b_lay_word⟩
abbrev f_kind_at : Fn := ⟨2, 2, b_kind_at⟩
abbrev f_many_at : Fn := ⟨2, 2, b_many_at⟩
abbrev f_colour_at : Fn := ⟨2, 2, b_colour_at⟩
abbrev f_paint : Fn := ⟨3, 4, b_paint⟩
abbrev f_body_of : Fn := ⟨2, 5, b_body_of⟩
abbrev f_flags_at : Fn := ⟨2, 2, b_flags_at⟩
abbrev f_reference_slots : Fn := ⟨2, 4, b_reference_slots⟩
abbrev f_objects_from : Fn := ⟨2, 4, b_objects_from⟩
abbrev f_put_behind : Fn := ⟨6, 7, b_put_behind⟩
abbrev f_young_objects : Fn := ⟨1, 2, b_young_objects⟩
abbrev f_keep_slots : Fn := ⟨2, 3, b_keep_slots⟩
abbrev f_need_address : Fn := ⟨2, 2, b_need_address⟩
abbrev f_need_roots : Fn := ⟨2, 3, b_need_roots⟩
abbrev f_shade : Fn := ⟨2, 2, b_shade⟩
abbrev f_shade_all : Fn := ⟨2, 3, b_shade_all⟩
abbrev f_move : Fn := ⟨2, 9, b_move⟩
abbrev f_lead : Fn := ⟨2, 2, b_lead⟩
abbrev f_lead_slots : Fn := ⟨2, 3, b_lead_slots⟩
abbrev f_lead_moved : Fn := ⟨1, 4, b_lead_moved⟩
abbrev f_keep_anew : Fn := ⟨2, 5, b_keep_anew⟩
abbrev f_moved_by : Fn := ⟨3, 9, b_moved_by⟩
abbrev f_picture_of : Fn := ⟨1, 4, b_picture_of⟩
abbrev f_begin_whole : Fn := ⟨2, 3, b_begin_whole⟩
abbrev f_l_feed : Fn := ⟨2, 3, b_l_feed⟩
abbrev f_l_draw : Fn := ⟨2, 5, b_l_draw⟩
abbrev f_l_one : Fn := ⟨2, 2, b_l_one⟩
abbrev f_l_same : Fn := ⟨2, 3, b_l_same⟩
abbrev f_l_wide : Fn := ⟨1, 11, b_l_wide⟩
abbrev f_l_shapes : Fn := ⟨1, 10, b_l_shapes⟩
abbrev f_l_sizes : Fn := ⟨1, 2, b_l_sizes⟩
abbrev f_l_number : Fn := ⟨2, 3, b_l_number⟩
abbrev f_l_head : Fn := ⟨3, 3, b_l_head⟩
abbrev f_l_told : Fn := ⟨3, 3, b_l_told⟩
abbrev f_l_makes : Fn := ⟨5, 19, b_l_makes⟩
abbrev f_law : Fn := ⟨1, 14, b_law⟩
abbrev f_Moving_init : Fn := ⟨3, 3, b_Moving_init⟩
abbrev f_Heap_init : Fn := ⟨3, 3, b_Heap_init⟩
abbrev f_Heap_make : Fn := ⟨4, 6, b_Heap_make⟩
abbrev f_Heap_kind : Fn := ⟨2, 2, b_Heap_kind⟩
abbrev f_Heap_slots : Fn := ⟨2, 2, b_Heap_slots⟩
abbrev f_Heap_where : Fn := ⟨2, 2, b_Heap_where⟩
abbrev f_Heap_remembered : Fn := ⟨1, 1, b_Heap_remembered⟩
abbrev f_Heap_counts : Fn := ⟨1, 4, b_Heap_counts⟩
abbrev f_Heap_begin : Fn := ⟨2, 2, b_Heap_begin⟩
abbrev f_Heap_is_marking : Fn := ⟨1, 1, b_Heap_is_marking⟩
abbrev f_Heap_picture : Fn := ⟨1, 1, b_Heap_picture⟩
def fnsL : List Fn := [f_is_integer, f_is_shape, f_is_shapes, f_is_sizes, f_is_heap_kind, f_is_size, f_need_shapes, f_need_sizes, f_need_kind, f_need_size, f_head_of, f_kind_in, f_age_in, f_colour_in, f_reference_flags, f_half_begin, f_old_begin, f_is_old, f_is_young, f_room_of, f_word_at, f_lay_word, f_kind_at, f_many_at, f_colour_at, f_paint, f_body_of, f_flags_at, f_reference_slots, f_objects_from, f_put_behind, f_young_objects, f_keep_slots, f_need_address, f_need_roots, f_shade, f_shade_all, f_move, f_lead, f_lead_slots, f_lead_moved, f_keep_anew, f_moved_by, f_picture_of, f_begin_whole, f_l_feed, f_l_draw, f_l_one, f_l_same, f_l_wide, f_l_shapes, f_l_sizes, f_l_number, f_l_head, f_l_told, f_l_makes, f_law, f_Moving_init, f_Heap_init, f_Heap_make, f_Heap_kind, f_Heap_slots, f_Heap_where, f_Heap_remembered, f_Heap_counts, f_Heap_begin, f_Heap_is_marking, f_Heap_picture]
def clsL : List Cls := [⟨57, [], [23, 25, 12, 17, 8, 5, 15, 3, 9, 27, 6, 19, 22, 13, 14, 1, 2, 16, 24, 26, 10, 11, 4, 0, 20, 7, 18, 21]⟩, ⟨58, [(22, 59), (19, 60), (20, 61), (21, 62), (26, 63), (25, 64), (23, 65), (27, 66), (24, 67)], [12, 17, 8, 5, 15, 3, 9, 6, 13, 14, 1, 2, 16, 10, 11, 4, 0, 7, 18]⟩]
def P : Prog := ⟨fnsL, clsL⟩
end K
end

section
set_option linter.all false
set_option maxRecDepth 10000
namespace K
open VI
/-! ### the feed -/
structure Fd where
  a : Int
  b : Int
  c : Int
def fdC (x : Fd) : Cell := .lst [.int x.a, .int x.b, .int x.c]
structure FdOk (n : Nat) (x : Fd) : Prop where
  a : 0 ≤ x.a
  b : 0 ≤ x.b
  b2 : x.b < 10 ^ 39 + 23
  c : 0 ≤ x.c
  c2 : x.c ≤ n
def stir1 (x : Fd) : Int := x.b + 6700417 * (x.c + 1)
def stir2 (x : Fd) : Int := (stir1 x * stir1 x * stir1 x + 15485863 * (x.c + 1)) % 10000000000000000000000000000000000000000057
def stir3 (x : Fd) : Int := (stir2 x * stir2 x + 32452843) % 100000000000000000000000000000000000133
/-- what is drawn, the feed behind it -/
def drR (x : Fd) (m : Int) : Int := if 0 < x.a then x.a - x.a / m * m else stir3 x / 1000000000 % m
def drF (x : Fd) (m : Int) : Fd := if 0 < x.a then ⟨x.a / m, x.b, x.c⟩ else ⟨x.a, x.b, x.c + 1⟩
theorem drR_ok {x : Fd} {m : Int} (h : 0 < m) : 0 ≤ drR x m ∧ drR x m < m := by
  unfold drR
  split
  · have := Int.emod_nonneg x.a (Int.ne_of_gt h)
    have := Int.emod_lt_of_pos x.a h
    have := Int.emod_def x.a m
    have e : x.a / m * m = m * (x.a / m) := Int.mul_comm ..
    omega
  · exact ⟨Int.emod_nonneg _ (Int.ne_of_gt h), Int.emod_lt_of_pos _ h⟩
theorem drF_ok {n : Nat} {x : Fd} {m : Int} (k : FdOk n x) (h : 0 < m) : FdOk (n + 1) (drF x m) := by
  unfold drF
  have h1 := k.a
  have h4 := k.c
  have h5 := k.c2
  split
  · exact ⟨Int.ediv_nonneg h1 (Int.le_of_lt h), k.b, k.b2, h4, by simp; omega⟩
  · refine ⟨h1, k.b, k.b2, ?_, ?_⟩
    · show 0 ≤ x.c + 1
      omega
    · show x.c + 1 ≤ ((n + 1 : Nat) : Int)
      omega
theorem FdOk.mono {n m : Nat} {x : Fd} (k : FdOk n x) (h : n ≤ m) : FdOk m x := ⟨k.a, k.b, k.b2, k.c, Int.le_trans k.c2 (by omega)⟩
theorem natLog_lt {i : Int} {n : Nat} (h0 : 0 ≤ i) (h : i < 2 ^ n) : natLog i ≤ n := by
  unfold natLog
  by_cases c : i.natAbs = 0
  · rw [c]; simp
  · have h1 : i.natAbs < 2 ^ n := by
      have : (i.natAbs : Int) = i := Int.natAbs_of_nonneg h0
      have h2 : ((2 ^ n : Nat) : Int) = 2 ^ n := by simp
      omega
    exact Nat.le_of_lt ((Nat.log2_lt c).mpr h1)
theorem natLog_mul {i j : Int} {n m : Nat} (h : natLog i ≤ n) (k : natLog j ≤ m) : natLog (i * j) ≤ n + m + 1 := by
  unfold natLog at *
  rw [Int.natAbs_mul]
  by_cases c : i.natAbs * j.natAbs = 0
  · rw [c]; simp
  · have c1 : i.natAbs ≠ 0 := fun z => c (by rw [z, Nat.zero_mul])
    have c2 : j.natAbs ≠ 0 := fun z => c (by rw [z, Nat.mul_zero])
    have h1 : i.natAbs < 2 ^ (n + 1) := (Nat.log2_lt c1).mp (by omega)
    have h2 : j.natAbs < 2 ^ (m + 1) := (Nat.log2_lt c2).mp (by omega)
    have h3 : i.natAbs * j.natAbs < 2 ^ (n + 1) * 2 ^ (m + 1) := Nat.mul_lt_mul'' h1 h2
    rw [← Nat.pow_add] at h3
    have := (Nat.log2_lt c).mpr h3
    omega
theorem at3 (p q r : D) : atI [p, q, r] 0 = some p ∧ atI [p, q, r] 1 = some q ∧ atI [p, q, r] 2 = some r := ⟨rfl, rfl, rfl⟩
theorem ix3 : ixN 3 0 = some 0 ∧ ixN 3 2 = some 2 := ⟨rfl, rfl⟩
theorem pow43 : bopI .pow 10 43 = some 10000000000000000000000000000000000000000000 := bopI_pow (by omega) (by omega) (by simp)
theorem pow38 : bopI .pow 10 38 = some 100000000000000000000000000000000000000 := bopI_pow (by omega) (by omega) (by simp)
theorem pow9 : bopI .pow 10 9 = some 1000000000 := bopI_pow (by omega) (by omega) (by simp)
theorem mod43 (z : Int) : bopI .mod z 10000000000000000000000000000000000000000057 = some (z % 10000000000000000000000000000000000000000057) := bopI_mod (by omega)
theorem mod38 (z : Int) : bopI .mod z 100000000000000000000000000000000000133 = some (z % 100000000000000000000000000000000000133) := bopI_mod (by omega)
theorem div9 (z : Int) : bopI .fdiv z 1000000000 = some (z / 1000000000) := bopI_fdiv (by omega) (by simp [natLog]; decide)
/-- so small is what is drawn with -/
structure DrOk (n : Nat) (m : Int) : Prop where
  hn : n < 2 ^ 60
  hm : 0 < m
  hm2 : m < 2 ^ 60
theorem draw {k : Nat} {s : St} {f : Nat} {x : Fd} {n : Nat} {m : Int} (hf : s[f]? = some (fdC x)) (hx : FdOk n x) (hm : DrOk n m) : callAt P (k + 1) 46 [.ref f, .int m] s = some (.int (drR x m), s.set f (fdC (drF x m))) := by
  refine call_eq (fn := f_l_draw) rfl rfl ?_
  have h1 := hm.hm
  have h2 := hm.hm2
  have h3 : natLog m < 9000 := by have := natLog_lt (Int.le_of_lt h1) h2; omega
  have hc : x.c + 1 < 2305843009213693953 := by have := hx.c2; have := hm.hn; omega
  have hc0 := hx.c
  have hb := hx.b
  have hb2 := hx.b2
  have q1 : 0 ≤ stir1 x := by unfold stir1; omega
  have l1 : natLog (stir1 x) ≤ 140 := natLog_lt q1 (by unfold stir1; omega)
  have l2 : natLog (stir1 x * stir1 x) ≤ 300 := Nat.le_trans (natLog_mul l1 l1) (by omega)
  have l3 : natLog (stir2 x) ≤ 143 := natLog_lt (by unfold stir2; omega) (by unfold stir2; omega)
  have hl := lt_of hf
  have hset : ∀ c, (s.set f c)[f]? = some c := fun c => set_get hl
  have e1 : bopI .mul 6700417 (x.c + 1) = some (6700417 * (x.c + 1)) := bopI_mul (.inl (by omega))
  have e2 : bopI .mul 15485863 (x.c + 1) = some (15485863 * (x.c + 1)) := bopI_mul (.inl (by omega))
  have e3 : bopI .mul (stir1 x) (stir1 x) = some (stir1 x * stir1 x) := bopI_mulW (by omega)
  have e4 : bopI .mul (stir1 x * stir1 x) (stir1 x) = some (stir1 x * stir1 x * stir1 x) := bopI_mulW (by omega)
  have e5 : bopI .mul (stir2 x) (stir2 x) = some (stir2 x * stir2 x) := bopI_mulW (by omega)
  have m3 : ∀ z, bopI .mod z m = some (z % m) := fun z => bopI_mod h1
  have d2 : bopI .fdiv x.a m = some (x.a / m) := bopI_fdiv h1 h3
  have t2 : bopI .mul (x.a / m) m = some (x.a / m * m) := bopI_mul (.inr ⟨by omega, by omega⟩)
  have u1 : x.b + 6700417 * (x.c + 1) = stir1 x := rfl
  have u2 : (stir1 x * stir1 x * stir1 x + 15485863 * (x.c + 1)) % 10000000000000000000000000000000000000000057 = stir2 x := rfl
  have u3 : (stir2 x * stir2 x + 32452843) % 100000000000000000000000000000000000133 = stir3 x := rfl
  clear hl
  by_cases c : 0 < x.a
  · simp -implicitDefEqProofs [b_l_draw, hf, fdC, at3, c, d2, t2, ix3, drR, drF, FinQ_keep]
  · simp -implicitDefEqProofs [b_l_draw, hf, fdC, at3, c, ix3, drR, drF, e1, e2, e3, e4, e5, pow43, pow38, pow9, mod43, mod38, div9, m3, hset, u1, u2, u3, FinQ_keep]
end K
end

section
set_option linter.all false
set_option maxRecDepth 10000
namespace VI
section
variable {Q : D → St → Prop} {s : St} {l : List D} {w : Bool} {d : D}
@[simp] theorem slc_fro {a b} : slcM w (.fro l) a b s = mk w (cut l a b) s := rfl
@[simp] theorem slc_lst {a b} : slcM w (.lst l) a b s = mk w (cut l a b) s := rfl
@[simp] theorem slc_tup {a b} : slcM w (.tup l) a b s = some (.tup (cut l a b), s) := rfl
@[simp] theorem bi_sum : biM .sum w [d] s = (rdOf s d).bind fun x => (intsOf x).map fun ns => (.int ns.sum, s) := rfl
@[simp] theorem part_int {i} : partI (.int i) s = some (some i, s) := rfl
theorem intsOf_map {ns : List Int} : intsOf (ns.map .int) = some ns := by
  induction ns with
  | nil => rfl
  | cons i r ih => simp [intsOf, ih]
theorem cut_map {α β : Type} {f : α → β} {l : List α} {a b} : cut (l.map f) a b = (cut l a b).map f := by
  unfold cut
  simp
theorem atI_map {α β : Type} {f : α → β} {l : List α} {i} : atI (l.map f) i = (atI l i).map f := by
  unfold atI
  rw [List.length_map]
  cases ixN l.length i <;> simp
theorem atI_nat {α : Type} {l : List α} {i : Nat} {x : α} (h : l[i]? = some x) : atI l (i : Int) = some x := by
  unfold atI ixN
  obtain ⟨h1, h2⟩ := List.getElem?_eq_some_iff.mp h
  simp [h1, h2]
end
/-! ### turns -/
section
variable {α : Type} {s : St} {g : List (Nat × Cell)}
def GOk (g : List (Nat × Cell)) (s : St) : Prop := ∀ p ∈ g, s[p.1]? = some p.2
theorem GOk_nil : GOk [] s := fun _ h => nomatch h
theorem wp_guard {Q : Unit → St → Prop} (h : GOk g s) (q : Q () s) : wp (guard g) Q s := by
  have h' : ∀ p ∈ g, s[p.1]? = some p.2 := h
  unfold wp guard
  rw [if_pos h']
  exact q
def AftQ (Q : Fl × Env → St → Prop) (I : Env → St → Prop) (w : Fl × Env) (s : St) : Prop := match w.1 with
  | .brk => Q (.next, w.2) s
  | .ret d => Q (.ret d, w.2) s
  | _ => I w.2 s
@[simp] theorem AftQ_next {Q I} {ρ : Env} : AftQ Q I (.next, ρ) s = I ρ s := rfl
@[simp] theorem AftQ_cont {Q I} {ρ : Env} : AftQ Q I (.cont, ρ) s = I ρ s := rfl
@[simp] theorem AftQ_brk {Q I} {ρ : Env} : AftQ Q I (.brk, ρ) s = Q (.next, ρ) s := rfl
@[simp] theorem AftQ_ret {Q I} {ρ : Env} {d} : AftQ Q I (.ret d, ρ) s = Q (.ret d, ρ) s := rfl
theorem wp_forL {b : D → Env → M (Fl × Env)} {Q : Fl × Env → St → Prop} (I : Nat → Env → St → Prop) {l : List D} {ρ : Env}
    (hg : ∀ i ρ s, i ≤ l.length → I i ρ s → GOk g s)
    (hs : ∀ i ρ s, (h : i < l.length) → I i ρ s → wp (b l[i] ρ) (AftQ Q (I (i + 1))) s)
    (he : ∀ ρ s, I l.length ρ s → Q (.next, ρ) s) (h0 : I 0 ρ s) : wp (forL g b l ρ) Q s := by
  induction l generalizing I ρ s with
  | nil =>
    rw [forL, w_bnd]
    exact wp_guard (hg 0 ρ s (Nat.le_refl _) h0) (he _ _ h0)
  | cons d r ih =>
    rw [forL, w_bnd]
    refine wp_guard (hg 0 ρ s (Nat.zero_le _) h0) ?_
    rw [w_bnd]
    refine wp_mono (hs 0 ρ s (Nat.zero_lt_succ _) h0) fun w s' q => ?_
    obtain ⟨fl, ρ'⟩ := w
    have go : I 1 ρ' s' → wp (forL g b r ρ') Q s' := fun h1 => ih (fun i => I (i + 1)) (fun i ρ s h hi => hg (i + 1) ρ s (Nat.succ_le_succ h) hi) (fun i ρ s h hi => hs (i + 1) ρ s (Nat.succ_lt_succ h) hi) (fun ρ s h => he ρ s h) h1
    cases fl with
    | next => exact go q
    | cont => exact go q
    | brk => exact q
    | ret d => exact q
theorem wp_mapG {f : D → M (Option D)} {Q : List D → St → Prop} (I : Nat → List D → St → Prop) {l acc : List D}
    (hg : ∀ i a s, i ≤ l.length → I i a s → GOk g s)
    (hs : ∀ i a s, (h : i < l.length) → I i a s → wp (f l[i]) (fun o s' => match o with
      | none => I (i + 1) a s'
      | some y => a.length < LINE ∧ I (i + 1) (a ++ [y]) s') s)
    (he : ∀ a s, I l.length a s → Q a s) (h0 : I 0 acc s) : wp (mapG g f l acc) Q s := by
  induction l generalizing I acc s with
  | nil =>
    rw [mapG, w_bnd]
    exact wp_guard (hg 0 acc s (Nat.le_refl _) h0) (he _ _ h0)
  | cons d r ih =>
    rw [mapG, w_bnd]
    refine wp_guard (hg 0 acc s (Nat.zero_le _) h0) ?_
    rw [w_bnd]
    refine wp_mono (hs 0 acc s (Nat.zero_lt_succ _) h0) fun o s' q => ?_
    have go : ∀ a, I 1 a s' → wp (mapG g f r a) Q s' := fun a h1 => ih (fun i => I (i + 1)) (fun i ρ s h hi => hg (i + 1) ρ s (Nat.succ_le_succ h) hi) (fun i ρ s h hi => hs (i + 1) ρ s (Nat.succ_lt_succ h) hi) (fun ρ s h => he ρ s h) h1
    cases o with
    | none => exact go _ q
    | some y =>
      simp only
      rw [if_pos q.1]
      exact go _ q.2
theorem wp_whileN {c : Env → M Bool} {b : Env → M (Fl × Env)} {Q : Fl × Env → St → Prop} (I : Nat → Env → St → Prop)
    (hs : ∀ m ρ s, I m ρ s → wp (c ρ) (fun k s' => if k = true then wp (b ρ) (AftQ Q fun ρ'' s'' => ∃ m', m' < m ∧ I m' ρ'' s'') s' else Q (.next, ρ) s') s)
    {m n : Nat} (hn : m < n) {ρ : Env} (h0 : I m ρ s) : wp (whileN c b n ρ) Q s := by
  induction n generalizing m ρ s with
  | zero => exact absurd hn (Nat.not_lt_zero _)
  | succ n ih =>
    rw [whileN, w_bnd]
    refine wp_mono (hs m ρ s h0) fun k s' q => ?_
    rw [w_ite]
    split at q
    · rename_i hk
      rw [if_pos hk, w_bnd]
      refine wp_mono q fun w s'' q => ?_
      obtain ⟨fl, ρ'⟩ := w
      cases fl with
      | next =>
        obtain ⟨m', h1, h2⟩ := q
        exact ih (Nat.lt_of_lt_of_le h1 (Nat.lt_succ_iff.mp hn)) h2
      | cont =>
        obtain ⟨m', h1, h2⟩ := q
        exact ih (Nat.lt_of_lt_of_le h1 (Nat.lt_succ_iff.mp hn)) h2
      | brk => exact q
      | ret d => exact q
    · rename_i hk
      rw [if_neg hk]
      exact q
end
end VI
end

section
set_option linter.all false
set_option maxRecDepth 10000
namespace K
open VI
/-! ### the feed -/
def cellOf (ns : List Int) (i : Int) : Int := if i < (ns.length : Int) then (atI ns i).getD 0 else 977 * i + (cut ns none (some 1)).sum
def fdOf (ns : List Int) (i : Int) : Fd := ⟨if 0 < cellOf ns i - 1000000000000000000 then cellOf ns i - 1000000000000000000 else 0, (cellOf ns i * 19 + 7 * i) % 1000000000000000000000000000000000000023, 0⟩
theorem fdOf_ok {ns : List Int} {i : Int} : FdOk 0 (fdOf ns i) := by
  unfold fdOf
  refine ⟨?_, ?_, ?_, ?_, ?_⟩ <;> simp only
  · split <;> omega
  · omega
  · omega
  · omega
  · omega
theorem pow18 : bopI .pow 10 18 = some 1000000000000000000 := bopI_pow (by omega) (by omega) (by simp)
theorem pow39 : bopI .pow 10 39 = some 1000000000000000000000000000000000000000 := bopI_pow (by omega) (by omega) (by simp)
theorem mul977 (z : Int) : bopI .mul 977 z = some (977 * z) := bopI_mul (.inl (by omega))
theorem mul7 (z : Int) : bopI .mul 7 z = some (7 * z) := bopI_mul (.inl (by omega))
theorem mul19 (z : Int) : bopI .mul z 19 = some (z * 19) := bopI_mul (.inr (by omega))
theorem mod39 (z : Int) : bopI .mod z 1000000000000000000000000000000000000023 = some (z % 1000000000000000000000000000000000000023) := bopI_mod (by omega)
theorem feed {k : Nat} {s : St} {ns : List Int} {i : Int} (h0 : 0 ≤ i) : callAt P (k + 1) 45 [.fro (ns.map .int), .int i] s = some (.ref s.length, s ++ [fdC (fdOf ns i)]) := by
  refine call_eq (fn := f_l_feed) rfl rfl ?_
  by_cases c : i < (ns.length : Int)
  · have e : atI (ns.map D.int) i = some (.int (cellOf ns i)) := by
      rw [atI_map]
      have : atI ns i = some (cellOf ns i) := by
        unfold cellOf
        rw [if_pos c]
        unfold atI ixN
        rw [if_pos h0, if_pos c]
        have : i.toNat < ns.length := by omega
        simp [this]
      rw [this]; rfl
    simp -implicitDefEqProofs [b_l_feed, cut_map, intsOf_map, c, e, pow18, pow39, mul977, mul7, mul19, mod39, FinQ_new, fdC, fdOf, D.und, LINE]
  · simp -implicitDefEqProofs [b_l_feed, cut_map, intsOf_map, c, pow18, pow39, mul977, mul7, mul19, mod39, FinQ_new, fdC, fdOf, D.und, LINE, cellOf]
end K
end

section
set_option linter.all false
set_option maxRecDepth 10000
namespace VI
theorem atI_of {α : Type} {l : List α} {i : Int} {x : α} (h0 : 0 ≤ i) (h : l[i.toNat]? = some x) : atI l i = some x := by
  have := atI_nat h
  rwa [Int.toNat_of_nonneg h0] at this
end VI
namespace K
open VI
theorem one_l {k : Nat} {s : St} {f : Nat} {x : Fd} {n : Nat} {l : List D} (hf : s[f]? = some (fdC x)) (hx : FdOk n x) (hm : DrOk n l.length) : ∃ d, d ∈ l ∧ callAt P (k + 2) 47 [.ref f, .lst l] s = some (d, s.set f (fdC (drF x l.length))) := by
  obtain ⟨r1, r2⟩ := drR_ok (x := x) hm.hm
  have h : (drR x l.length).toNat < l.length := by omega
  refine ⟨l[(drR x l.length).toNat], List.getElem_mem h, ?_⟩
  refine call_eq (fn := f_l_one) rfl rfl ?_
  have e : atI l (drR x l.length) = some l[(drR x l.length).toNat] := atI_of r1 (by simp [h])
  simp -implicitDefEqProofs [b_l_one, draw hf hx hm, e, FinQ_keep]
theorem one_r {k : Nat} {s : St} {f g : Nat} {x : Fd} {n : Nat} {l : List D} (hf : s[f]? = some (fdC x)) (hx : FdOk n x) (hg : s[g]? = some (.lst l)) (c : f ≠ g) (hm : DrOk n l.length) : ∃ d, d ∈ l ∧ callAt P (k + 2) 47 [.ref f, .ref g] s = some (d, s.set f (fdC (drF x l.length))) := by
  obtain ⟨r1, r2⟩ := drR_ok (x := x) hm.hm
  have h : (drR x l.length).toNat < l.length := by omega
  refine ⟨l[(drR x l.length).toNat], List.getElem_mem h, ?_⟩
  refine call_eq (fn := f_l_one) rfl rfl ?_
  have e : atI l (drR x l.length) = some l[(drR x l.length).toNat] := atI_of r1 (by simp [h])
  have hg' : ∀ c, (s.set f c)[g]? = some (.lst l) := fun _ => by rw [List.getElem?_set_ne c]; exact hg
  simp -implicitDefEqProofs [b_l_one, draw hf hx hm, e, hg, hg', FinQ_keep]
/-! ### sizes -/
structure Sz where
  a : Int
  b : Int
  c : Int
  d : Int
structure SzOk (z : Sz) : Prop where
  a1 : 16 ≤ z.a
  a2 : z.a ≤ 4096
  b1 : 0 ≤ z.b
  b2 : z.b ≤ 4096
  c1 : 4 ≤ z.c
  c2 : z.c ≤ z.a
  d1 : 1 ≤ z.d
  d2 : z.d ≤ 7
def szD (z : Sz) : D := .tup [.int z.a, .int z.b, .int z.c, .int z.d]
theorem dr6 {n : Nat} {m : Int} (hn : n < 2 ^ 59) (h0 : 0 < m) (h : m < 2 ^ 59) : DrOk n m := ⟨by omega, h0, by omega⟩
theorem sizes {k : Nat} {s : St} {f : Nat} {x : Fd} {n : Nat} (hf : s[f]? = some (fdC x)) (hx : FdOk n x) (hn : n < 2 ^ 50) :
    ∃ z x', SzOk z ∧ FdOk (n + 4) x' ∧ callAt P (k + 3) 51 [.ref f] s = some (szD z, s.set f (fdC x')) := by
  have hl := lt_of hf
  have hset : ∀ c, (s.set f c)[f]? = some c := fun c => set_get hl
  obtain ⟨d1, m1, e1⟩ := one_l (k := k) (l := [.int 16, .int 16, .int 20, .int 40, .int 300]) hf hx (dr6 (by omega) (by simp) (by simp))
  have k1 := drF_ok (m := ([.int 16, .int 16, .int 20, .int 40, .int 300] : List D).length) hx (by simp)
  generalize drF x ([.int 16, .int 16, .int 20, .int 40, .int 300] : List D).length = x1 at e1 k1
  obtain ⟨d2, m2, e2⟩ := one_l (k := k) (l := [.int 0, .int 4, .int 12, .int 30]) (hset (fdC x1)) k1 (dr6 (by omega) (by simp) (by simp))
  have k2 := drF_ok (m := ([.int 0, .int 4, .int 12, .int 30] : List D).length) k1 (by simp)
  generalize drF x1 ([.int 0, .int 4, .int 12, .int 30] : List D).length = x2 at e2 k2
  rw [List.set_set] at e2
  obtain ⟨d3, m3, e3⟩ := one_l (k := k) (l := [.int 4, .int 6, .int 10, .int 16]) (hset (fdC x2)) k2 (dr6 (by omega) (by simp) (by simp))
  have k3 := drF_ok (m := ([.int 4, .int 6, .int 10, .int 16] : List D).length) k2 (by simp)
  generalize drF x2 ([.int 4, .int 6, .int 10, .int 16] : List D).length = x3 at e3 k3
  rw [List.set_set] at e3
  have e4 := draw (k := k + 1) (hset (fdC x3)) k3 (dr6 (m := 7) (by omega) (by omega) (by omega))
  have k4 := drF_ok (m := 7) k3 (by omega)
  rw [List.set_set] at e4
  have r4 := drR_ok (x := x3) (m := 7) (by omega)
  have q1 : ∃ i : Int, d1 = .int i ∧ 16 ≤ i ∧ i ≤ 4096 := by
    simp at m1
    rcases m1 with h | h | h | h <;> exact ⟨_, h, by omega, by omega⟩
  have q2 : ∃ i : Int, d2 = .int i ∧ 0 ≤ i ∧ i ≤ 4096 := by
    simp at m2
    rcases m2 with h | h | h | h <;> exact ⟨_, h, by omega, by omega⟩
  have q3 : ∃ i : Int, d3 = .int i ∧ 4 ≤ i ∧ i ≤ 16 := by
    simp at m3
    rcases m3 with h | h | h | h <;> exact ⟨_, h, by omega, by omega⟩
  obtain ⟨a, rfl, a1, a2⟩ := q1
  obtain ⟨b, rfl, b1, b2⟩ := q2
  obtain ⟨c, rfl, c1, c2⟩ := q3
  refine ⟨⟨a, b, c, 1 + drR x3 7⟩, _, ⟨a1, a2, b1, b2, c1, by simp only; omega, by simp only; omega, by simp only; omega⟩, k4, ?_⟩
  refine call_eq (fn := f_l_sizes) rfl rfl ?_
  simp -implicitDefEqProofs [b_l_sizes, e1, e2, e3, e4, FinQ_keep, szD, LINE]
end K
end

section
set_option linter.all false
set_option maxRecDepth 10000
namespace K
open VI
theorem number {k : Nat} {s : St} {f : Nat} {x : Fd} {n : Nat} {z : Sz} (hz : SzOk z) (hf : s[f]? = some (fdC x)) (hx : FdOk n x) (hn : n < 2 ^ 50) :
    ∃ i x', 0 ≤ i ∧ i ≤ 1000 ∧ FdOk (n + 3) x' ∧ callAt P (k + 3) 52 [.ref f, szD z] s = some (.int i, s.set f (fdC x')) := by
  have hl := lt_of hf
  have hset : ∀ c, (s.set f c)[f]? = some c := fun c => set_get hl
  have e1 := draw (k := k + 1) (m := 6) hf hx (dr6 (by omega) (by omega) (by omega))
  have k1 := drF_ok (m := 6) hx (by omega)
  have r1 := drR_ok (x := x) (m := 6) (by omega)
  generalize drF x 6 = x1 at e1 k1
  generalize drR x 6 = w at e1 r1
  obtain ⟨c1, c2⟩ := And.intro hz.c1 hz.c2
  have ca := hz.a2
  by_cases c : w < 3
  · refine ⟨min 1000 (z.c - 3 + w), x1, by omega, by omega, k1.mono (by omega), ?_⟩
    refine call_eq (fn := f_l_number) rfl rfl ?_
    have e : (if z.c - 3 + w < 1000 then z.c - 3 + w else 1000) = min 1000 (z.c - 3 + w) := by omega
    have at2 : atI [D.int z.a, .int z.b, .int z.c, .int z.d] 2 = some (.int z.c) := rfl
    simp -implicitDefEqProofs [b_l_number, e1, c, szD, at2, FinQ_keep, e]
  · have e2 := draw (k := k + 1) (m := 9) (hset (fdC x1)) k1 (dr6 (by omega) (by omega) (by omega))
    have k2 := drF_ok (m := 9) k1 (by omega)
    have r2 := drR_ok (x := x1) (m := 9) (by omega)
    by_cases d : w = 3
    · have e3 := draw (k := k + 1) (m := 1001) (hset (fdC x1)) k1 (dr6 (by omega) (by omega) (by omega))
      have k3 := drF_ok (m := 1001) k1 (by omega)
      have r3 := drR_ok (x := x1) (m := 1001) (by omega)
      generalize drF x1 1001 = x3 at e3 k3
      generalize drR x1 1001 = y at e3 r3
      obtain ⟨v, m4, e4⟩ := one_l (k := k) (l := [.int 0, .int 1, .int 2, .int 5, .int 1000, .int y]) (hset (fdC x3)) k3 (dr6 (by omega) (by simp) (by simp))
      have k4 := drF_ok (m := ([.int 0, .int 1, .int 2, .int 5, .int 1000, .int y] : List D).length) k3 (by simp)
      rw [List.set_set] at e3
      rw [List.set_set] at e4
      have q : ∃ i : Int, v = .int i ∧ 0 ≤ i ∧ i ≤ 1000 := by
        simp at m4
        rcases m4 with h | h | h | h | h | h <;> exact ⟨_, h, by omega, by omega⟩
      obtain ⟨i, rfl, i0, i1⟩ := q
      refine ⟨i, _, i0, i1, k4, ?_⟩
      refine call_eq (fn := f_l_number) rfl rfl ?_
      simp -implicitDefEqProofs [b_l_number, e1, c, d, e3, e4, FinQ_keep, LINE]
    · rw [List.set_set] at e2
      refine ⟨drR x1 9, _, r2.1, by omega, k2.mono (by omega), ?_⟩
      refine call_eq (fn := f_l_number) rfl rfl ?_
      simp -implicitDefEqProofs [b_l_number, e1, c, d, e2, FinQ_keep]
/-! ### what is told, what is due -/
mutual
def sm : Nat → D → Bool
  | n, .tup l => match n with
    | 0 => false
    | n + 1 => decide (l.length < 2 ^ 62) && smAll n l
  | _, .bl _ => true
  | _, .int _ => true
  | _, .str _ => true
  | _, _ => false
def smAll : Nat → List D → Bool
  | _, [] => true
  | n, d :: r => sm n d && smAll n r
end
theorem smAll_get {n : Nat} {l : List D} (h : smAll n l = true) {i : Nat} (hi : i < l.length) : sm n l[i] = true := by
  induction l generalizing i with
  | nil => exact absurd hi (Nat.not_lt_zero _)
  | cons d r ih =>
    rw [smAll, Bool.and_eq_true] at h
    cases i with
    | zero => exact h.1
    | succ i => exact ih h.2 (by simpa using hi)
@[simp] theorem isi_tup {s : St} {l t} : isiM t (.tup l) s = some (.bl (decide (t = .tuple)), s) := rfl
@[simp] theorem isi_int {s : St} {i t} : isiM t (.int i) s = some (.bl (decide (t = .int)), s) := rfl
@[simp] theorem isi_str {s : St} {i t} : isiM t (.str i) s = some (.bl (decide (t = .str)), s) := rfl
@[simp] theorem isi_bl {s : St} {b t} : isiM t (.bl b) s = some (.bl (match t with | .int => true | .bool => true | _ => false), s) := by cases t <;> rfl
@[simp] theorem iter_range1 {s : St} {hi : Int} : iterM .range [.int hi] s = if -(2 ^ 62) ≤ hi ∧ hi < 2 ^ 62 then some ((rangeD 0 hi.toNat, []), s) else none := rfl
@[simp] theorem iter_range2 {s : St} {lo hi : Int} : iterM .range [.int lo, .int hi] s = if -(2 ^ 62) ≤ lo ∧ lo < 2 ^ 62 ∧ -(2 ^ 62) ≤ hi ∧ hi < 2 ^ 62 then some ((rangeD lo (hi - lo).toNat, []), s) else none := rfl
theorem rangeD_len {lo n} : (rangeD lo n).length = n := by simp [rangeD]
theorem rangeD_get {lo n i} (h : i < (rangeD lo n).length) : (rangeD lo n)[i] = .int (lo + (i : Nat)) := by simp [rangeD]
theorem same {n : Nat} : ∀ {k : Nat} {s : St} {d : D}, sm n d = true → callAt P (k + n + 1) 48 [d, d] s = some (.bl true, s) := by
  induction n with
  | zero =>
    intro k s d h
    refine call_eq (fn := f_l_same) rfl rfl ?_
    cases d with
    | bl b => simp -implicitDefEqProofs [b_l_same]
    | int i => simp -implicitDefEqProofs [b_l_same]
    | str i => simp -implicitDefEqProofs [b_l_same]
    | _ => exact absurd h (by simp [sm])
  | succ n ih =>
    intro k s d h
    refine call_eq (fn := f_l_same) rfl rfl ?_
    cases d with
    | bl b => simp -implicitDefEqProofs [b_l_same]
    | int i => simp -implicitDefEqProofs [b_l_same]
    | str i => simp -implicitDefEqProofs [b_l_same]
    | tup l =>
      rw [sm, Bool.and_eq_true] at h
      have h1 := of_decide_eq_true h.1
      have h2 : ((l.length : Nat) : Int) < 4611686018427387904 := by omega
      have h3 : -(4611686018427387904 : Int) ≤ ((l.length : Nat) : Int) := by omega
      simp -implicitDefEqProofs [b_l_same, x_for, h2, h3]
      have ih' : ∀ {s : St} {d : D}, sm n d = true → callAt P (k + (n + 1)) 48 [d, d] s = some (.bl true, s) := fun h => ih h
      refine wp_forL (fun i ρ s' => s' = s ∧ ∃ o, ρ = [some (.tup l), some (.tup l), o]) (fun _ _ _ _ _ => GOk_nil) ?_ ?_ ⟨rfl, _, rfl⟩
      · rintro i ρ s' hi ⟨rfl, o, rfl⟩
        rw [rangeD_len] at hi
        have e : atI l (i : Int) = some l[i] := atI_nat (by simp [hi])
        rw [rangeD_get]
        simp -implicitDefEqProofs [e, ih' (smAll_get h.2 hi)]
      · rintro ρ s' ⟨rfl, o, rfl⟩
        simp -implicitDefEqProofs
    | _ => exact absurd h (by simp [sm])
end K
end

section
set_option linter.all false
set_option maxRecDepth 10000
namespace K
open VI
@[simp] theorem iter_tup {s : St} {l} : iterM .seq [.tup l] s = some ((l, []), s) := rfl
@[simp] theorem iter_lst {s : St} {l} : iterM .seq [.lst l] s = some ((l, []), s) := rfl
@[simp] theorem iter_fro {s : St} {l} : iterM .seq [.fro l] s = some ((l, []), s) := rfl
def itR (n : Nat) (o : Option Cell) (s : St) : Option ((List D × List (Nat × Cell)) × St) := match o with
  | some (.lst x) => some ((x, [(n, .lst x)]), s)
  | _ => none
@[simp] theorem iter_ref {s : St} {n} : iterM .seq [.ref n] s = itR n s[n]? s := rfl
@[simp] theorem itR_lst {s : St} {n l} : itR n (some (.lst l)) s = some ((l, [(n, .lst l)]), s) := rfl
def bsD (l : List Bool) : D := .tup (l.map .bl)
def shD (l : List (List Bool)) : D := .tup (l.map bsD)
structure ShOk (l : List (List Bool)) : Prop where
  many : l.length ≤ 60
  each : ∀ x ∈ l, x.length ≤ 100
theorem is_shape {k : Nat} {s : St} {l : List Bool} (h : l.length ≤ 100) : callAt P (k + 1) 1 [bsD l] s = some (.bl true, s) := by
  refine call_eq (fn := f_is_shape) rfl rfl ?_
  have h1 : ¬ (100 : Int) < ((l.length : Nat) : Int) := by omega
  simp -implicitDefEqProofs [b_is_shape, bsD, h1, x_for]
  refine wp_forL (fun i ρ s' => s' = s ∧ ∃ o, ρ = [some (bsD l), o]) (fun _ _ _ _ _ => GOk_nil) ?_ ?_ ⟨rfl, _, rfl⟩
  · rintro i ρ s' hi ⟨rfl, o, rfl⟩
    rw [List.getElem_map]
    generalize l[i]'(by simpa using hi) = b
    cases b <;> simp -implicitDefEqProofs [D.isSame]
  · rintro ρ s' ⟨rfl, o, rfl⟩
    simp -implicitDefEqProofs
theorem is_shapes {k : Nat} {s : St} {l : List (List Bool)} (h : ShOk l) : callAt P (k + 2) 2 [shD l] s = some (.bl true, s) := by
  refine call_eq (fn := f_is_shapes) rfl rfl ?_
  have h1 : ¬ (60 : Int) < ((l.length : Nat) : Int) := by have := h.many; omega
  simp -implicitDefEqProofs [b_is_shapes, shD, h1, x_for]
  refine wp_forL (fun i ρ s' => s' = s ∧ ∃ o, ρ = [some (shD l), o]) (fun _ _ _ _ _ => GOk_nil) ?_ ?_ ⟨rfl, _, rfl⟩
  · rintro i ρ s' hi ⟨rfl, o, rfl⟩
    rw [List.getElem_map]
    have := h.each _ (List.getElem_mem (by simpa using hi : i < l.length))
    simp -implicitDefEqProofs [is_shape this]
  · rintro ρ s' ⟨rfl, o, rfl⟩
    simp -implicitDefEqProofs
theorem is_int {k : Nat} {s : St} {i : Int} : callAt P (k + 1) 0 [.int i] s = some (.bl true, s) := by
  refine call_eq (fn := f_is_integer) rfl rfl ?_
  simp -implicitDefEqProofs [b_is_integer]
theorem is_sizes {k : Nat} {s : St} {z : Sz} (h : SzOk z) : callAt P (k + 2) 3 [szD z] s = some (.bl true, s) := by
  refine call_eq (fn := f_is_sizes) rfl rfl ?_
  obtain ⟨a1, a2, b1, b2, c1, c2, d1, d2⟩ := h
  simp -implicitDefEqProofs [b_is_sizes, szD, x_for]
  refine wp_forL (fun i ρ s' => s' = s ∧ ∃ o, ρ = [some (szD z), o, none, none, none, none]) (fun _ _ _ _ _ => GOk_nil) ?_ ?_ ⟨rfl, _, rfl⟩
  · rintro i ρ s' hi ⟨rfl, o, rfl⟩
    have : ∃ j, [D.int z.a, .int z.b, .int z.c, .int z.d][i] = .int j := by
      have hi' : i < 4 := hi
      match i, hi' with
      | 0, _ => exact ⟨_, rfl⟩
      | 1, _ => exact ⟨_, rfl⟩
      | 2, _ => exact ⟨_, rfl⟩
      | 3, _ => exact ⟨_, rfl⟩
    obtain ⟨j, e⟩ := this
    rw [e]
    simp -implicitDefEqProofs [is_int]
  · rintro ρ s' ⟨rfl, o, rfl⟩
    simp -implicitDefEqProofs [szD, a1, a2, b1, b2, c1, c2, d1, d2]
theorem need_shapes {k : Nat} {s : St} {l : List (List Bool)} (h : ShOk l) : callAt P (k + 3) 6 [shD l] s = some (.non, s) := by
  refine call_eq (fn := f_need_shapes) rfl rfl ?_
  simp -implicitDefEqProofs [b_need_shapes, is_shapes h]
theorem need_sizes {k : Nat} {s : St} {z : Sz} (h : SzOk z) : callAt P (k + 3) 7 [szD z] s = some (.non, s) := by
  refine call_eq (fn := f_need_sizes) rfl rfl ?_
  simp -implicitDefEqProofs [b_need_sizes, is_sizes h]
theorem need_kind {k : Nat} {s : St} {l : List (List Bool)} {i : Int} (h0 : -3 ≤ i) (h1 : i < l.length) : callAt P (k + 3) 8 [shD l, .int i] s = some (.non, s) := by
  have e : callAt P (k + 2) 4 [shD l, .int i] s = some (.bl true, s) := by
    refine call_eq (fn := f_is_heap_kind) rfl rfl ?_
    simp -implicitDefEqProofs [b_is_heap_kind, is_int, shD, h0, h1]
  refine call_eq (fn := f_need_kind) rfl rfl ?_
  simp -implicitDefEqProofs [b_need_kind, e]
/-- so many words may an object of this kind have -/
def ManyOk (l : List (List Bool)) (i m : Int) : Prop := if 0 ≤ i then ∃ b, l[i.toNat]? = some b ∧ m = b.length else 0 ≤ m ∧ m ≤ 1000
theorem need_size {k : Nat} {s : St} {l : List (List Bool)} {i m : Int} (h : ManyOk l i m) : callAt P (k + 3) 9 [shD l, .int i, .int m] s = some (.non, s) := by
  have e : callAt P (k + 2) 5 [shD l, .int i, .int m] s = some (.bl true, s) := by
    refine call_eq (fn := f_is_size) rfl rfl ?_
    unfold ManyOk at h
    by_cases c : 0 ≤ i
    · rw [if_pos c] at h
      obtain ⟨b, h1, h2⟩ := h
      have e : atI (l.map bsD) i = some (bsD b) := atI_of c (by simp [h1])
      simp -implicitDefEqProofs [b_is_size, is_int, shD, c, e, bsD, h2]
    · rw [if_neg c] at h
      simp -implicitDefEqProofs [b_is_size, is_int, shD, c, h.1, h.2]
  refine call_eq (fn := f_need_size) rfl rfl ?_
  simp -implicitDefEqProofs [b_need_size, e]
end K
end

section
set_option linter.all false
set_option maxRecDepth 10000
namespace VI
section
variable {P : Prog} {cl : Nat → List D → M D} {ρ : Env} {s : St}
noncomputable def compF (P : Prog) (cl : Nat → List D → M D) (elt : E) (t : List Nat) (tt : Bool) (cs : List E) (ρ : Env) (d : D) : M (Option D) := match setT (wipe ρ t) t tt d with
        | none => fail
        | some ρ' => bnd (evalTs P cl cs ρ') fun k => if k = true then bnd (evalE P cl elt ρ') fun y => ret (some y) else ret none
theorem x_comp {own elt t tt it l cs} : evalE P cl (.comp own elt t tt it l cs) ρ = bnd (evalEs P cl l ρ) fun vs => bnd (iterM it vs) fun w => bnd (mapG w.2 (compF P cl elt t tt cs ρ) w.1 []) fun ys => mk own ys := by
  rw [evalE]; rfl
@[simp ↓] theorem p_comp {own elt t tt it l cs} {Q : D → St → Prop} : wp (evalE P cl (.comp own elt t tt it l cs) ρ) Q s = wp (bnd (evalEs P cl l ρ) fun vs => bnd (iterM it vs) fun w => bnd (mapG w.2 (compF P cl elt t tt cs ρ) w.1 []) fun ys => mk own ys) Q s := by rw [x_comp]
@[simp ↓] theorem w_comp1 {elt i cs} {d : D} {Q : Option D → St → Prop} : wp (compF P cl elt [i] false cs ρ d) Q s = wpo (some (Nm ((ρ.set i none).set i (some d)), s)) (fun ρ' s => wp (bnd (evalTs P cl cs ρ') fun k => if k = true then bnd (evalE P cl elt ρ') fun y => ret (some y) else ret none) Q s) := rfl
theorem seq_cut {t r} {Q : Fl × Env → St → Prop} (I : Env → St → Prop) (h1 : wp (execS P cl t ρ) (fun w s' => w.1 = .next ∧ I w.2 s') s) (h2 : ∀ ρ' s', I ρ' s' → wp (execSs P cl r ρ') Q s') : wp (execSs P cl (t :: r) ρ) Q s := by
  rw [p_s1, w_bnd]
  refine wp_mono h1 fun w s' h => ?_
  obtain ⟨fl, ρ'⟩ := w
  obtain ⟨h3, h4⟩ := h
  cases h3
  exact h2 _ _ h4
theorem set_self {n : Nat} {c : Cell} (h : s[n]? = some c) : s.set n c = s := by
  obtain ⟨h1, h2⟩ := List.getElem?_eq_some_iff.mp h
  rw [← h2]
  exact List.set_getElem_self h1
theorem app_set {t : St} {n : Nat} {c : Cell} (h : n < s.length) : (s ++ t).set n c = s.set n c ++ t := List.set_append_left _ _ h
theorem app_get {t : St} {n : Nat} (h : n < s.length) : (s ++ t)[n]? = s[n]? := List.getElem?_append_left h
theorem app_new {c : Cell} {n : Nat} (h : n = s.length) : (s ++ [c])[n]? = some c := by subst h; simp
theorem app_setn {c c' : Cell} {n : Nat} (h : n = s.length) : (s ++ [c]).set n c' = s ++ [c'] := by subst h; simp
theorem set_len {n : Nat} {c : Cell} : (s.set n c).length = s.length := List.length_set
end
end VI
namespace K
open VI
def lD (l : List Bool) : D := .lst (l.map .bl)
def eBit : E := .cmp .eq (.call 46 [.slot 0, .cst (.int 2)] []) (.cst (.int 0))
/-- bits are drawn -/
theorem bits {k : Nat} {f : Nat} {ρ : Env} {s : St} {x : Fd} {n m : Nat} (hf : s[f]? = some (fdC x)) (hx : FdOk n x) (hn : n < 2 ^ 50) (hm : m ≤ 2000) {Q : List D → St → Prop}
    (h : ∀ (bs : List Bool) (x' : Fd), bs.length = m → FdOk (n + m) x' → Q (bs.map .bl) (s.set f (fdC x'))) : wp (mapG [] (compF P (callAt P (k + 1)) eBit [4] false [] (some (.ref f) :: ρ)) (rangeD 0 m) []) Q s := by
  have hl := lt_of hf
  have hset : ∀ c, (s.set f c)[f]? = some c := fun c => set_get hl
  refine wp_mapG (fun i a s' => ∃ (bs : List Bool) (x' : Fd), bs.length = i ∧ a = bs.map .bl ∧ FdOk (n + i) x' ∧ s' = s.set f (fdC x')) (fun _ _ _ _ _ => GOk_nil) ?_ ?_ ⟨[], x, rfl, rfl, hx, (set_self hf).symm⟩
  · rintro i a s' hi ⟨bs, x', b1, rfl, b3, rfl⟩
    rw [rangeD_len] at hi
    have e := draw (k := k) (hset (fdC x')) b3 (dr6 (m := 2) (by omega) (by omega) (by omega))
    rw [List.set_set] at e
    simp -implicitDefEqProofs [eBit, e]
    refine ⟨by unfold LINE; omega, bs ++ [drR x' 2 == 0], by simp [b1], by simp, drF x' 2, drF_ok b3 (by omega), rfl⟩
  · rintro a s' ⟨bs, x', b1, rfl, b3, rfl⟩
    rw [rangeD_len] at b1 b3
    exact h bs x' b1 b3
end K
end

section
set_option linter.all false
set_option maxRecDepth 10000
namespace K
open VI
mutual
theorem und_pure {n : Nat} {d : D} (h : d.pure = true) : d.und n := by
  cases d with
  | tup l => exact und_pureAll (by simpa [D.pure] using h)
  | lst l => exact und_pureAll (by simpa [D.pure] using h)
  | fro l => exact absurd h (by simp [D.pure])
  | ref l => exact absurd h (by simp [D.pure])
  | non => trivial
  | bl => trivial
  | int => trivial
  | str => trivial
theorem und_pureAll {n : Nat} {l : List D} (h : pureAll l = true) : undAll n l := by
  cases l with
  | nil => trivial
  | cons d r =>
    rw [pureAll, Bool.and_eq_true] at h
    exact ⟨und_pure h.1, und_pureAll h.2⟩
end
theorem pureAll_iff {l : List D} : pureAll l = l.all D.pure := by
  induction l with
  | nil => rfl
  | cons d r ih => rw [pureAll, ih]; rfl
theorem pureAll_map {α : Type} {g : α → D} {l : List α} : pureAll (l.map g) = l.all fun a => (g a).pure := by
  rw [pureAll_iff, List.all_map]; rfl
def ShI (s : St) (f m N : Nat) (s' : St) : Prop := ∃ (ls : List (List Bool)) (x' : Fd), ls.length = m ∧ (∀ l ∈ ls, l.length ≤ 100) ∧ FdOk N x' ∧ s' = s.set f (fdC x') ++ [.lst (ls.map lD)]
def ShQ (s : St) (f n : Nat) (d : D) (s' : St) : Prop := ∃ ls x', ShOk ls ∧ 1 ≤ ls.length ∧ FdOk (n + 200) x' ∧ d = shD ls ∧ s' = s.set f (fdC x')
theorem shapes {k : Nat} {s : St} {f : Nat} {x : Fd} {n : Nat} (hf : s[f]? = some (fdC x)) (hx : FdOk n x) (hn : n < 2 ^ 40) :
    ∃ ls x', ShOk ls ∧ 1 ≤ ls.length ∧ FdOk (n + 200) x' ∧ callAt P (k + 3) 50 [.ref f] s = some (shD ls, s.set f (fdC x')) := by
  have hl := lt_of hf
  have hset : ∀ c, (s.set f c)[f]? = some c := fun c => set_get hl
  suffices h : wpo (callAt P (k + 3) 50 [.ref f] s) (ShQ s f n) by
    generalize callAt P (k + 3) 50 [.ref f] s = o at h
    cases o with
    | none => exact h.elim
    | some r =>
      obtain ⟨ls, x', h1, h2, h3, h4, h5⟩ := h
      exact ⟨ls, x', h1, h2, h3, by rw [← h4, ← h5]⟩
  refine call_wp (fn := f_l_shapes) rfl rfl ?_
  show wp (execSs P (callAt P (k + 2)) b_l_shapes [some (.ref f), none, none, none, none, none, none, none, none, none]) _ s
  unfold b_l_shapes
  have e1 := draw (k := k + 1) (m := 3) hf hx (dr6 (by omega) (by omega) (by omega))
  have k1 := drF_ok (m := 3) hx (by omega)
  have r1 := drR_ok (x := x) (m := 3) (by omega)
  generalize drF x 3 = x1 at e1 k1
  generalize drR x 3 = m at e1 r1
  have e2 := draw (k := k + 1) (m := 16) (hset (fdC x1)) k1 (dr6 (by omega) (by omega) (by omega))
  have k2 := drF_ok (m := 16) k1 (by omega)
  have r2 := drR_ok (x := x1) (m := 16) (by omega)
  generalize drF x1 16 = x2 at e2 k2
  generalize drR x1 16 = w at e2 r2
  rw [List.set_set] at e2
  refine seq_cut (fun ρ s' => ρ = [some (.ref f), some (.int (1 + m)), some (.int w), none, none, none, none, none, none, none] ∧ s' = s.set f (fdC x2)) ?_ ?_
  · simp -implicitDefEqProofs [e1, e2, LINE]
  rintro _ _ ⟨rfl, rfl⟩
  refine seq_cut (fun ρ s' => ∃ m : Int, 1 ≤ m ∧ m ≤ 9 ∧ ρ = [some (.ref f), some (.int m), some (.int w), none, none, none, none, none, none, none] ∧ s' = s.set f (fdC x2)) ?_ ?_
  · by_cases c : w = 1
    · simp -implicitDefEqProofs [c]
    · simp -implicitDefEqProofs [c]
      omega
  rintro _ _ ⟨m, m1, m2, rfl, rfl⟩
  refine seq_cut (fun ρ s' => ρ = [some (.ref f), some (.int m), some (.int w), some (.ref s.length), none, none, none, none, none, none] ∧ ShI s f m.toNat (n + 56) s') ?_ ?_
  · have h2 : m < 4611686018427387904 := by omega
    have h3 : -(4611686018427387904 : Int) ≤ m := by omega
    simp -implicitDefEqProofs [h2, h3]
    refine wp_mapG (fun i a s' => ∃ (ls : List (List Bool)) (x' : Fd), ls.length = i ∧ a = ls.map lD ∧ (∀ l ∈ ls, l.length ≤ 100) ∧ FdOk (n + 2 + 6 * i) x' ∧ s' = s.set f (fdC x')) (fun _ _ _ _ _ => GOk_nil) ?_ ?_ ⟨[], x2, rfl, rfl, fun _ h => (nomatch h), k2, rfl⟩
    · rintro i a s' hi ⟨ls, x', b1, rfl, b3, b4, rfl⟩
      rw [rangeD_len] at hi
      have e := draw (k := k + 1) (hset (fdC x')) b4 (dr6 (m := 5) (by omega) (by omega) (by omega))
      rw [List.set_set] at e
      have kk := drF_ok (m := 5) b4 (by omega)
      have rr := drR_ok (x := x') (m := 5) (by omega)
      generalize drF x' 5 = x3 at e kk
      generalize drR x' 5 = z at e rr
      have h2 : z < 4611686018427387904 := by omega
      have h3 : -(4611686018427387904 : Int) ≤ z := by omega
      simp -implicitDefEqProofs [e, h2, h3]
      refine bits (k := k + 1) (hset (fdC x3)) kk (by omega) (by omega) ?_
      intro bs x4 b5 b6
      simp -implicitDefEqProofs
      refine ⟨by unfold LINE; omega, ls ++ [bs], by simp [b1], by simp [lD], ?_, x4, b6.mono (by omega), rfl⟩
      intro l hl'
      rcases List.mem_append.mp hl' with h | h
      · exact b3 l h
      · rw [List.mem_singleton.mp h]; omega
    · rintro a s' ⟨ls, x', b1, rfl, b3, b4, rfl⟩
      rw [rangeD_len] at b1 b4
      simp -implicitDefEqProofs
      exact ⟨ls, x', b1, b3, b4.mono (by omega), rfl⟩
  rintro _ s2 ⟨rfl, hI⟩
  have hw := r2.1
  have hne : f ≠ s.length := by omega
  refine seq_cut (fun ρ s' => (∃ o, ρ = [some (.ref f), some (.int m), some (.int w), some (.ref s.length), none, none, o, none, none, none]) ∧ ShI s f m.toNat (n + 80) s') ?_ ?_
  · obtain ⟨ls, x', a1, a2, a3, rfl⟩ := hI
    by_cases c : 1 < w
    · by_cases c2 : w < 6
      · have hg : (s.set f (fdC x') ++ [.lst (ls.map lD)])[f]? = some (fdC x') := by rw [app_get (by rw [set_len]; exact hl)]; exact hset _
        have e := draw (k := k + 1) (m := m) hg a3 (dr6 (by omega) (by omega) (by omega))
        have kk := drF_ok (m := m) a3 (by omega)
        have rr := drR_ok (x := x') (m := m) (by omega)
        generalize drF x' m = x3 at e kk
        generalize drR x' m = z at e rr
        rw [app_set (by rw [set_len]; exact hl), List.set_set] at e
        have hg2 : (s.set f (fdC x3) ++ [.lst (ls.map lD)])[f]? = some (fdC x3) := by rw [app_get (by rw [set_len]; exact hl)]; exact hset _
        have e2 := draw (k := k + 1) (m := 10) hg2 kk (dr6 (by omega) (by omega) (by omega))
        have k2 := drF_ok (m := 10) kk (by omega)
        have r2 := drR_ok (x := x3) (m := 10) (by omega)
        generalize drF x3 10 = x4 at e2 k2
        generalize drR x3 10 = y at e2 r2
        rw [app_set (by rw [set_len]; exact hl), List.set_set] at e2
        have hg3 : (s.set f (fdC x4) ++ [.lst (ls.map lD)])[f]? = some (fdC x4) := by rw [app_get (by rw [set_len]; exact hl)]; exact hset _
        have h2 : 5 + y < 4611686018427387904 := by omega
        have h3 : -(4611686018427387904 : Int) ≤ 5 + y := by omega
        simp -implicitDefEqProofs [c, c2, e, e2, h2, h3]
        refine bits (k := k + 1) hg3 k2 (by omega) (by omega) ?_
        intro bs x5 b5 b6
        rw [app_set (by rw [set_len]; exact hl), List.set_set]
        have hg4 : (s.set f (fdC x5) ++ [.lst (ls.map lD)])[s.length]? = some (.lst (ls.map lD)) := app_new (by rw [set_len])
        have ix : ixN ls.length z = some z.toNat := by unfold ixN; rw [if_pos rr.1, if_pos (by omega)]
        simp -implicitDefEqProofs [hg4, ix]
        refine ⟨ls.set z.toNat bs, x5, by simp [a1], ?_, b6.mono (by omega), ?_⟩
        · intro l hl'
          rcases List.mem_or_eq_of_mem_set hl' with h | h
          · exact a2 l h
          · rw [h]; omega
        · rw [List.map_set]; rfl
      · simp -implicitDefEqProofs [c, c2]
        exact ⟨ls, x', a1, a2, a3.mono (by omega), rfl⟩
    · simp -implicitDefEqProofs [c]
      exact ⟨ls, x', a1, a2, a3.mono (by omega), rfl⟩
  rintro _ s2 ⟨⟨o, rfl⟩, hI⟩
  refine seq_cut (fun ρ s' => (∃ o o1 o2, ρ = [some (.ref f), some (.int m), some (.int w), some (.ref s.length), none, none, o, o1, o2, none]) ∧ ShI s f m.toNat (n + 90) s') ?_ ?_
  · obtain ⟨ls, x', a1, a2, a3, rfl⟩ := hI
    by_cases c : w = 6
    · subst c
      have hg : (s.set f (fdC x') ++ [.lst (ls.map lD)])[f]? = some (fdC x') := by rw [app_get (by rw [set_len]; exact hl)]; exact hset _
      have e := draw (k := k + 1) (m := 97) hg a3 (dr6 (by omega) (by omega) (by omega))
      have kk := drF_ok (m := 97) a3 (by omega)
      have rr := drR_ok (x := x') (m := 97) (by omega)
      generalize drF x' 97 = x3 at e kk
      generalize drR x' 97 = u at e rr
      rw [app_set (by rw [set_len]; exact hl), List.set_set] at e
      have hg2 : (s.set f (fdC x3) ++ [.lst (ls.map lD)])[f]? = some (fdC x3) := by rw [app_get (by rw [set_len]; exact hl)]; exact hset _
      have e2 := draw (k := k + 1) (m := 89) hg2 kk (dr6 (by omega) (by omega) (by omega))
      have k2 := drF_ok (m := 89) kk (by omega)
      have r2 := drR_ok (x := x3) (m := 89) (by omega)
      generalize drF x3 89 = x4 at e2 k2
      generalize drR x3 89 = v at e2 r2
      rw [app_set (by rw [set_len]; exact hl), List.set_set] at e2
      have hg3 : (s.set f (fdC x4) ++ [.lst (ls.map lD)])[f]? = some (fdC x4) := by rw [app_get (by rw [set_len]; exact hl)]; exact hset _
      have e3 := draw (k := k + 1) (m := 101) hg3 k2 (dr6 (by omega) (by omega) (by omega))
      have k3 := drF_ok (m := 101) k2 (by omega)
      have r3 := drR_ok (x := x4) (m := 101) (by omega)
      generalize drF x4 101 = x5 at e3 k3
      generalize drR x4 101 = y at e3 r3
      rw [app_set (by rw [set_len]; exact hl), List.set_set] at e3
      have h2 : y < 4611686018427387904 := by omega
      have h3 : -(4611686018427387904 : Int) ≤ y := by omega
      simp -implicitDefEqProofs [e, e2, e3, h2, h3, LINE]
      refine wp_mapG (fun i a s' => ∃ bs : List Bool, bs.length = i ∧ a = bs.map .bl ∧ s' = s.set f (fdC x5) ++ [.lst (ls.map lD)]) (fun _ _ _ _ _ => GOk_nil) ?_ ?_ ⟨[], rfl, rfl, rfl⟩
      · rintro i a s' hi ⟨bs, b1, rfl, rfl⟩
        rw [rangeD_len] at hi
        rw [rangeD_get]
        have M1 : bopI .mul u i = some (u * i) := bopI_mul (.inl (by omega))
        have M2 : bopI .mul (u * i) i = some (u * i * i) := bopI_mul (.inr (by omega))
        have M3 : bopI .mul v i = some (v * i) := bopI_mul (.inl (by omega))
        have M4 : ∀ z, bopI .mod z 5 = some (z % 5) := fun z => bopI_mod (by omega)
        simp -implicitDefEqProofs [M1, M2, M3, M4]
        exact ⟨by unfold LINE; omega, bs ++ [decide ((u * i * i + v * i) % 5 < 2)], by simp [b1], by simp⟩
      · intro a s' hh
        change asP _
        obtain ⟨bs, b1, rfl, rfl⟩ := hh
        unfold asP
        rw [rangeD_len] at b1
        have hg4 : (s.set f (fdC x5) ++ [.lst (ls.map lD)])[s.length]? = some (.lst (ls.map lD)) := app_new (by rw [set_len])
        have ix : ixN ls.length 0 = some 0 := by unfold ixN; rw [if_pos (by omega), if_pos (by omega)]; rfl
        simp -implicitDefEqProofs [hg4, ix]
        refine ⟨ls.set 0 bs, x5, by simp [a1], ?_, k3.mono (by omega), ?_⟩
        · intro l hl'
          rcases List.mem_or_eq_of_mem_set hl' with h | h
          · exact a2 l h
          · rw [h]; omega
        · rw [List.map_set]; rfl
    · simp -implicitDefEqProofs [c]
      exact ⟨ls, x', a1, a2, a3.mono (by omega), rfl⟩
  rintro _ s2 ⟨⟨o, o1, o2, rfl⟩, hI⟩
  obtain ⟨ls, x', a1, a2, a3, rfl⟩ := hI
  have hg : (s.set f (fdC x') ++ [.lst (ls.map lD)])[s.length]? = some (.lst (ls.map lD)) := app_new (by rw [set_len])
  simp -implicitDefEqProofs [hg]
  refine wp_mapG (fun i a s' => a = (ls.map bsD).take i ∧ s' = s.set f (fdC x') ++ [.lst (ls.map lD)]) ?_ ?_ ?_ ⟨rfl, rfl⟩
  · rintro i a s' hi ⟨rfl, rfl⟩ p hp
    rw [List.mem_singleton.mp hp]
    exact hg
  · rintro i a s' hi ⟨rfl, rfl⟩
    rw [List.getElem_map]
    have hi' : i < ls.length := by simpa using hi
    simp -implicitDefEqProofs [lD, LINE]
    refine ⟨by omega, ?_⟩
    rw [List.take_succ_eq_append_getElem (by simpa using hi')]
    simp [bsD]
  · rintro a s' ⟨rfl, rfl⟩
    simp -implicitDefEqProofs
    refine FinQ_drop ⟨by simp, ?_, ?_⟩ ?_
    · refine und_pure ?_
      rw [D.pure, List.take_of_length_le (by simp), pureAll_map]
      simp [D.pure, pureAll_map, bsD]
    · intro i hi
      by_cases c : i = f
      · right
        subst c
        rw [app_get (by rw [set_len]; exact hl), hset]
        rintro c ⟨⟩
        exact ⟨trivial, trivial, trivial, trivial⟩
      · left
        rw [app_get (by rw [set_len]; exact hi), List.getElem?_set_ne (Ne.symm c)]
    · refine ⟨ls, x', ⟨by omega, a2⟩, by omega, a3.mono (by omega), ?_, ?_⟩
      · rw [List.take_of_length_le (by simp)]; rfl
      · simp
end K
end

section
set_option linter.all false
set_option maxRecDepth 10000
namespace K
open VI
def WdQ (s : St) (f n : Nat) (d : D) (s' : St) : Prop := ∃ ls z x', ShOk ls ∧ SzOk z ∧ FdOk (n + 200) x' ∧ d = .tup [shD ls, szD z] ∧ s' = s.set f (fdC x')
theorem wide {k : Nat} {s : St} {f : Nat} {x : Fd} {n : Nat} (hf : s[f]? = some (fdC x)) (hx : FdOk n x) (hn : n < 2 ^ 40) :
    ∃ ls z x', ShOk ls ∧ SzOk z ∧ FdOk (n + 200) x' ∧ callAt P (k + 3) 49 [.ref f] s = some (.tup [shD ls, szD z], s.set f (fdC x')) := by
  have hl := lt_of hf
  have hset : ∀ c, (s.set f c)[f]? = some c := fun c => set_get hl
  suffices h : wpo (callAt P (k + 3) 49 [.ref f] s) (WdQ s f n) by
    generalize callAt P (k + 3) 49 [.ref f] s = o at h
    cases o with
    | none => exact h.elim
    | some r =>
      obtain ⟨ls, z, x', h1, h2, h3, h4, h5⟩ := h
      exact ⟨ls, z, x', h1, h2, h3, by rw [← h4, ← h5]⟩
  refine call_wp (fn := f_l_wide) rfl rfl ?_
  show wp (execSs P (callAt P (k + 2)) b_l_wide [some (.ref f), none, none, none, none, none, none, none, none, none, none]) _ s
  unfold b_l_wide
  have e1 := draw (k := k + 1) (m := 61) hf hx (dr6 (by omega) (by omega) (by omega))
  have k1 := drF_ok (m := 61) hx (by omega)
  have r1 := drR_ok (x := x) (m := 61) (by omega)
  generalize drF x 61 = x1 at e1 k1
  generalize drR x 61 = m at e1 r1
  have e2 := draw (k := k + 1) (m := 101) (hset (fdC x1)) k1 (dr6 (by omega) (by omega) (by omega))
  have k2 := drF_ok (m := 101) k1 (by omega)
  have r2 := drR_ok (x := x1) (m := 101) (by omega)
  generalize drF x1 101 = x2 at e2 k2
  generalize drR x1 101 = w at e2 r2
  rw [List.set_set] at e2
  have e3 := draw (k := k + 1) (m := 97) (hset (fdC x2)) k2 (dr6 (by omega) (by omega) (by omega))
  have k3 := drF_ok (m := 97) k2 (by omega)
  have r3 := drR_ok (x := x2) (m := 97) (by omega)
  generalize drF x2 97 = x3 at e3 k3
  generalize drR x2 97 = u at e3 r3
  rw [List.set_set] at e3
  have e4 := draw (k := k + 1) (m := 89) (hset (fdC x3)) k3 (dr6 (by omega) (by omega) (by omega))
  have k4 := drF_ok (m := 89) k3 (by omega)
  have r4 := drR_ok (x := x3) (m := 89) (by omega)
  generalize drF x3 89 = x4 at e4 k4
  generalize drR x3 89 = v at e4 r4
  rw [List.set_set] at e4
  refine seq_cut (fun ρ s' => ρ = [some (.ref f), some (.int m), some (.int w), some (.int u), some (.int v), none, none, none, none, none, none] ∧ s' = s.set f (fdC x4)) ?_ ?_
  · simp -implicitDefEqProofs [e1, e2, e3, e4, LINE]
  rintro _ _ ⟨rfl, rfl⟩
  refine seq_cut (fun ρ s' => (∃ ls, ShOk ls ∧ ρ = [some (.ref f), some (.int m), some (.int w), some (.int u), some (.int v), some (.lst (ls.map lD)), none, none, none, none, none]) ∧ s' = s.set f (fdC x4)) ?_ ?_
  · have h2 : m < 4611686018427387904 := by omega
    have h3 : -(4611686018427387904 : Int) ≤ m := by omega
    simp -implicitDefEqProofs [h2, h3]
    refine wp_mapG (fun i a s' => ∃ (ls : List (List Bool)), ls.length = i ∧ a = ls.map lD ∧ (∀ l ∈ ls, l.length ≤ 100) ∧ s' = s.set f (fdC x4)) (fun _ _ _ _ _ => GOk_nil) ?_ ?_ ⟨[], rfl, rfl, fun _ h => (nomatch h), rfl⟩
    · rintro i a s' hi ⟨ls, b1, rfl, b3, rfl⟩
      rw [rangeD_len] at hi
      rw [rangeD_get]
      have M1 : bopI .mul 7 i = some (7 * i) := bopI_mul (.inl (by omega))
      have M2 : ∀ z, bopI .mod z 101 = some (z % 101) := fun z => bopI_mod (by omega)
      have h4 : (w + 7 * i) % 101 < 4611686018427387904 := by omega
      have h5 : -(4611686018427387904 : Int) ≤ (w + 7 * i) % 101 := by omega
      have h6 : 0 ≤ (w + 7 * i) % 101 := by omega
      have h7 : (w + 7 * i) % 101 < 101 := by omega
      simp -implicitDefEqProofs [M1, M2, h4, h5]
      generalize (w + 7 * (i : Int)) % 101 = y at h6 h7
      refine wp_mapG (fun j a s' => ∃ bs : List Bool, bs.length = j ∧ a = bs.map .bl ∧ s' = s.set f (fdC x4)) (fun _ _ _ _ _ => GOk_nil) ?_ ?_ ⟨[], rfl, rfl, rfl⟩
      · rintro j a s' hj ⟨bs, b1, rfl, rfl⟩
        rw [rangeD_len] at hj
        rw [rangeD_get]
        have M1 : bopI .mul u j = some (u * j) := bopI_mul (.inl (by omega))
        have M2 : bopI .mul (u * j) j = some (u * j * j) := bopI_mul (.inr (by omega))
        have M3 : bopI .mul v j = some (v * j) := bopI_mul (.inl (by omega))
        have M4 : ∀ z, bopI .mod z 5 = some (z % 5) := fun z => bopI_mod (by omega)
        simp -implicitDefEqProofs [M1, M2, M3, M4]
        exact ⟨by unfold LINE; omega, bs ++ [decide ((u * j * j + v * j + i) % 5 < 2)], by simp [b1], by simp⟩
      · rintro a s' ⟨bs, b2, rfl, rfl⟩
        rw [rangeD_len] at b2
        simp -implicitDefEqProofs
        refine ⟨by unfold LINE; omega, ls ++ [bs], by simp [b1], by simp [lD], ?_⟩
        intro l hl'
        rcases List.mem_append.mp hl' with h | h
        · exact b3 l h
        · rw [List.mem_singleton.mp h]; omega
    · rintro a s' ⟨ls, b1, rfl, b3, rfl⟩
      rw [rangeD_len] at b1
      simp -implicitDefEqProofs
      exact ⟨ls, ⟨by omega, b3⟩, rfl⟩
  rintro _ _ ⟨⟨ls, hls, rfl⟩, rfl⟩
  have e5 := draw (k := k + 1) (m := 4081) (hset (fdC x4)) k4 (dr6 (by omega) (by omega) (by omega))
  have k5 := drF_ok (m := 4081) k4 (by omega)
  have r5 := drR_ok (x := x4) (m := 4081) (by omega)
  generalize drF x4 4081 = x5 at e5 k5
  generalize drR x4 4081 = a at e5 r5
  rw [List.set_set] at e5
  have e6 := draw (k := k + 1) (m := 4097) (hset (fdC x5)) k5 (dr6 (by omega) (by omega) (by omega))
  have k6 := drF_ok (m := 4097) k5 (by omega)
  have r6 := drR_ok (x := x5) (m := 4097) (by omega)
  generalize drF x5 4097 = x6 at e6 k6
  generalize drR x5 4097 = b at e6 r6
  rw [List.set_set] at e6
  have e7 := draw (k := k + 1) (m := 16 + a - 3) (hset (fdC x6)) k6 (dr6 (by omega) (by omega) (by omega))
  have k7 := drF_ok (m := 16 + a - 3) k6 (by omega)
  have r7 := drR_ok (x := x6) (m := 16 + a - 3) (by omega)
  generalize drF x6 (16 + a - 3) = x7 at e7 k7
  generalize drR x6 (16 + a - 3) = c at e7 r7
  rw [List.set_set] at e7
  have e8 := draw (k := k + 1) (m := 7) (hset (fdC x7)) k7 (dr6 (by omega) (by omega) (by omega))
  have k8 := drF_ok (m := 7) k7 (by omega)
  have r8 := drR_ok (x := x7) (m := 7) (by omega)
  generalize drF x7 7 = x8 at e8 k8
  generalize drR x7 7 = d at e8 r8
  rw [List.set_set] at e8
  refine seq_cut (fun ρ s' => ρ = [some (.ref f), some (.int m), some (.int w), some (.int u), some (.int v), some (.lst (ls.map lD)), none, none, some (.int (16 + a)), none, none] ∧ s' = s.set f (fdC x5)) ?_ ?_
  · simp -implicitDefEqProofs [e5]
  rintro _ _ ⟨rfl, rfl⟩
  refine seq_cut (fun ρ s' => ρ = [some (.ref f), some (.int m), some (.int w), some (.int u), some (.int v), some (.lst (ls.map lD)), none, none, some (.int (16 + a)), some (szD ⟨16 + a, b, 4 + c, 1 + d⟩), none] ∧ s' = s.set f (fdC x8)) ?_ ?_
  · simp -implicitDefEqProofs [e6, e7, e8, LINE, szD]
  rintro _ _ ⟨rfl, rfl⟩
  simp -implicitDefEqProofs
  refine wp_mapG (fun i a s' => a = (ls.map bsD).take i ∧ s' = s.set f (fdC x8)) (fun _ _ _ _ _ => GOk_nil) ?_ ?_ ⟨rfl, rfl⟩
  · rintro i a s' hi ⟨rfl, rfl⟩
    rw [List.getElem_map]
    have hi' : i < ls.length := by simpa using hi
    have := hls.many
    simp -implicitDefEqProofs [lD, LINE]
    refine ⟨by omega, ?_⟩
    rw [List.take_succ_eq_append_getElem (by simpa using hi')]
    simp [bsD]
  · rintro a s' ⟨rfl, rfl⟩
    rw [List.take_of_length_le (by simp)]
    simp -implicitDefEqProofs [LINE]
    refine FinQ_keep set_len ⟨ls, ⟨16 + a, b, 4 + c, 1 + d⟩, x8, hls, ⟨?_, ?_, ?_, ?_, ?_, ?_, ?_, ?_⟩, k8.mono (by omega), rfl, rfl⟩ <;> simp only <;> omega
end K
end

section
set_option linter.all false
set_option maxRecDepth 10000
namespace VI
section
variable {s s' : St} {Q : D → St → Prop} {d : D}
theorem FinQ_hold {i : Nat} {c : Cell} (hi : i < s.length) (h1 : s'[i]? = some c) (h2 : s[i]? ≠ some c) (h3 : ¬ c.und s.length) (q : Q d s') : FinQ s Q d s' := by
  refine ⟨fun hd => ?_, fun _ => q⟩
  exfalso
  rcases hd.2.2 i hi with h | h
  · rw [h1] at h; exact h2 h.symm
  · exact h3 (h c h1)
theorem set_ne {i j : Nat} {c : Cell} (h : i ≠ j) : (s.set i c)[j]? = s[j]? := List.getElem?_set_ne h
theorem und_ins {n c : Nat} {fs : List (Nat × D)} {f k : Nat} (h : (f, D.ref k) ∈ fs) (hk : n ≤ k) : ¬ (Cell.ins c fs).und n := fun u => absurd (u _ h) (Nat.not_lt.mpr hk)
end
end VI
namespace K
open VI
/-- where a heap's parts lie -/
structure HR where
  h : Nat
  nur : Nat
  hv : Nat
  ha : Nat
  hb : Nat
  old : Nat
  kept : Nat
  grey : Nat
  st : Nat
def hpC (r : HR) (ls : List (List Bool)) (z : Sz) (half : Int) (taken : Int) (mk : Bool) : Cell :=
  .ins 1 [(4, shD ls), (0, szD z), (1, .ref r.nur), (3, .ref r.hv), (5, .int half), (2, .ref r.old), (6, .ref r.kept), (8, .ref r.grey), (18, .int taken), (13, .bl mk), (7, .ref r.st)]
def stC (st : List Int) : Cell := .dic false (st.map fun a => (.inl a, .bl true))
def wsC (ws : List Int) : Cell := .lst (ws.map .int)
/-- the heap at s: nothing but new objects was made -/
structure HpAt (s : St) (r : HR) (ls : List (List Bool)) (z : Sz) (half : Int) (mk : Bool) (yw ow : List Int) (st : List Int) : Prop where
  h : s[r.h]? = some (hpC r ls z half 0 mk)
  nur : s[r.nur]? = some (wsC yw)
  hv : s[r.hv]? = some (.lst [.ref r.ha, .ref r.hb])
  ha : s[r.ha]? = some (.lst [])
  hb : s[r.hb]? = some (.lst [])
  old : s[r.old]? = some (wsC ow)
  kept : s[r.kept]? = some (.dic false [])
  grey : s[r.grey]? = some (.lst [])
  st : s[r.st]? = some (stC st)
/-- the places differ -/
structure HRok (r : HR) : Prop where
  a1 : r.nur ≠ r.h
  a2 : r.nur ≠ r.hv
  a3 : r.nur ≠ r.ha
  a4 : r.nur ≠ r.hb
  a5 : r.nur ≠ r.old
  a6 : r.nur ≠ r.kept
  a7 : r.nur ≠ r.grey
  a8 : r.nur ≠ r.st
  b1 : r.old ≠ r.h
  b2 : r.old ≠ r.hv
  b3 : r.old ≠ r.ha
  b4 : r.old ≠ r.hb
  b5 : r.old ≠ r.nur
  b6 : r.old ≠ r.kept
  b7 : r.old ≠ r.grey
  b8 : r.old ≠ r.st
  c1 : r.st ≠ r.h
  c2 : r.st ≠ r.hv
  c3 : r.st ≠ r.ha
  c4 : r.st ≠ r.hb
  c5 : r.st ≠ r.nur
  c6 : r.st ≠ r.kept
  c7 : r.st ≠ r.grey
  c8 : r.st ≠ r.old
def ob (z : Sz) : Int := z.a + 2 * z.b + 1
theorem old_begin {k : Nat} {s : St} {z : Sz} : callAt P (k + 1) 16 [szD z] s = some (.int (ob z), s) := by
  refine call_eq (fn := f_old_begin) rfl rfl ?_
  have e0 : atI [D.int z.a, .int z.b, .int z.c, .int z.d] 0 = some (.int z.a) := rfl
  have e1 : atI [D.int z.a, .int z.b, .int z.c, .int z.d] 1 = some (.int z.b) := rfl
  have e : bopI .mul 2 z.b = some (2 * z.b) := bopI_mul (.inl (by omega))
  simp -implicitDefEqProofs [b_old_begin, szD, e0, e1, e, ob]
section
variable {k : Nat} {s : St} {r : HR} {ls : List (List Bool)} {z : Sz} {half : Int} {mk : Bool} {yw ow st : List Int}
theorem fl {f : Nat} (h : f = 12 ∨ f = 17 ∨ f = 8 ∨ f = 5 ∨ f = 15 ∨ f = 3 ∨ f = 9 ∨ f = 6 ∨ f = 13 ∨ f = 14 ∨ f = 1 ∨ f = 2 ∨ f = 16 ∨ f = 10 ∨ f = 11 ∨ f = 4 ∨ f = 0 ∨ f = 7 ∨ f = 18) : P.fld 1 f = true := by
  rcases h with h | h | h | h | h | h | h | h | h | h | h | h | h | h | h | h | h | h | h <;> subst h <;> rfl
@[simp] theorem fl0 : P.fld 1 0 = true := fl (by omega)
@[simp] theorem fl1 : P.fld 1 1 = true := fl (by omega)
@[simp] theorem fl2 : P.fld 1 2 = true := fl (by omega)
@[simp] theorem fl3 : P.fld 1 3 = true := fl (by omega)
@[simp] theorem fl4 : P.fld 1 4 = true := fl (by omega)
@[simp] theorem fl5 : P.fld 1 5 = true := fl (by omega)
@[simp] theorem fl6 : P.fld 1 6 = true := fl (by omega)
@[simp] theorem fl7 : P.fld 1 7 = true := fl (by omega)
@[simp] theorem fl8 : P.fld 1 8 = true := fl (by omega)
@[simp] theorem fl13 : P.fld 1 13 = true := fl (by omega)
@[simp] theorem fl18 : P.fld 1 18 = true := fl (by omega)
theorem is_old {a : Int} (H : HpAt s r ls z half mk yw ow st) : callAt P (k + 2) 17 [.ref r.h, .int a] s = some (.bl (decide (ob z ≤ a)), s) := by
  refine call_eq (fn := f_is_old) rfl rfl ?_
  simp -implicitDefEqProofs [b_is_old, H.h, hpC, valF, old_begin]
theorem room_young {a : Int} (H : HpAt s r ls z half mk yw ow st) (h : a ≤ z.a) : callAt P (k + 3) 19 [.ref r.h, .int a] s = some (.tup [.ref r.nur, .int 1], s) := by
  refine call_eq (fn := f_room_of) rfl rfl ?_
  have e0 : atI [D.int z.a, .int z.b, .int z.c, .int z.d] 0 = some (.int z.a) := rfl
  simp -implicitDefEqProofs [b_room_of, H.h, hpC, valF, szD, e0, h, LINE]
theorem room_old {a : Int} (H : HpAt s r ls z half mk yw ow st) (hb : 0 ≤ z.b) (h : ob z ≤ a) : callAt P (k + 3) 19 [.ref r.h, .int a] s = some (.tup [.ref r.old, .int (ob z)], s) := by
  refine call_eq (fn := f_room_of) rfl rfl ?_
  have e0 : atI [D.int z.a, .int z.b, .int z.c, .int z.d] 0 = some (.int z.a) := rfl
  have h2 : ¬ a ≤ z.a := by unfold ob at h; omega
  have e1 : callAt P (k + 2) 17 [.ref r.h, .int a] s = some (.bl true, s) := by rw [is_old H]; simp [h]
  have e2 := old_begin (k := k + 1) (s := s) (z := z)
  rw [szD] at e2
  simp -implicitDefEqProofs [b_room_of, H.h, hpC, valF, szD, e0, h2, LINE, e1, e2]
theorem word_young {p : Nat} {v : Int} (H : HpAt s r ls z half mk yw ow st) (h : 1 + (p : Int) ≤ z.a) (hv : yw[p]? = some v) : callAt P (k + 4) 20 [.ref r.h, .int (1 + p)] s = some (.int v, s) := by
  refine call_eq (fn := f_word_at) rfl rfl ?_
  have e : atI (yw.map D.int) (1 + (p : Int) - 1) = some (.int v) := by
    have : 1 + (p : Int) - 1 = p := by omega
    rw [this]
    exact atI_nat (by simp [hv])
  simp -implicitDefEqProofs [b_word_at, room_young H h, H.nur, wsC, e]
theorem word_old {p : Nat} {v : Int} (H : HpAt s r ls z half mk yw ow st) (hb : 0 ≤ z.b) (hv : ow[p]? = some v) : callAt P (k + 4) 20 [.ref r.h, .int (ob z + p)] s = some (.int v, s) := by
  refine call_eq (fn := f_word_at) rfl rfl ?_
  have e : atI (ow.map D.int) (ob z + (p : Int) - ob z) = some (.int v) := by
    have : ob z + (p : Int) - ob z = p := by omega
    rw [this]
    exact atI_nat (by simp [hv])
  simp -implicitDefEqProofs [b_word_at, room_old (a := ob z + p) H hb (by omega), H.old, wsC, e]
end
end K
end

section
set_option linter.all false
set_option maxRecDepth 10000
namespace K
open VI
section
variable {k : Nat} {s : St} {r : HR} {ls : List (List Bool)} {z : Sz} {half : Int} {mk : Bool} {yw ow st : List Int}
def WordAt (s : St) (r : HR) (a v : Int) : Prop := ∀ k, callAt P (k + 4) 20 [.ref r.h, .int a] s = some (.int v, s)
theorem kind_in {v : Int} : callAt P (k + 1) 11 [.int v] s = some (.int (v / 64 - 3), s) := by
  refine call_eq (fn := f_kind_in) rfl rfl ?_
  have e : bopI .fdiv v 64 = some (v / 64) := bopI_fdiv (by omega) (by simp [natLog]; decide)
  simp -implicitDefEqProofs [b_kind_in, e]
theorem kind_at {a v : Int} (H : WordAt s r a v) : callAt P (k + 5) 22 [.ref r.h, .int a] s = some (.int (v / 64 - 3), s) := by
  refine call_eq (fn := f_kind_at) rfl rfl ?_
  simp -implicitDefEqProofs [b_kind_at, H k, kind_in]
theorem many_at {a v : Int} (H : WordAt s r (a + 1) v) : callAt P (k + 5) 23 [.ref r.h, .int a] s = some (.int v, s) := by
  refine call_eq (fn := f_many_at) rfl rfl ?_
  simp -implicitDefEqProofs [b_many_at, H k]
theorem st_has {st : List Int} {a : Int} : (valK (st.map fun a => ((.inl a : Ky), D.bl true)) (.inl a)).isSome = decide (a ∈ st) := by
  unfold valK
  induction st with
  | nil => simp
  | cons b r ih =>
    by_cases c : b = a
    · subst c; simp
    · have c' : a ≠ b := fun e => c e.symm
      simp [List.find?_cons, c, c'] at ih ⊢
      simpa using ih
theorem need_address {a : Int} (H : HpAt s r ls z half mk yw ow st) (h : a ∈ st) : callAt P (k + 2) 33 [.ref r.h, .int a] s = some (.non, s) := by
  refine call_eq (fn := f_need_address) rfl rfl ?_
  simp -implicitDefEqProofs [b_need_address, is_int, H.h, hpC, valF, H.st, stC, st_has, h]
theorem heap_kind {a v : Int} (H : HpAt s r ls z half mk yw ow st) (h : a ∈ st) (W : WordAt s r a v) : callAt P (k + 6) 60 [.ref r.h, .int a] s = some (.int (v / 64 - 3), s) := by
  refine call_eq (fn := f_Heap_kind) rfl rfl ?_
  simp -implicitDefEqProofs [b_Heap_kind, need_address H h, kind_at W]
theorem heap_slots {a v : Int} (H : HpAt s r ls z half mk yw ow st) (h : a ∈ st) (W : WordAt s r (a + 1) v) : callAt P (k + 6) 61 [.ref r.h, .int a] s = some (.int v, s) := by
  refine call_eq (fn := f_Heap_slots) rfl rfl ?_
  simp -implicitDefEqProofs [b_Heap_slots, need_address H h, many_at W]
def wOld : D := .str [111, 108, 100]
def wYoung : D := .str [110, 117, 114, 115, 101, 114, 121]
theorem where_old {a : Int} (H : HpAt s r ls z half mk yw ow st) (h : a ∈ st) (c : ob z ≤ a) : callAt P (k + 6) 62 [.ref r.h, .int a] s = some (wOld, s) := by
  refine call_eq (fn := f_Heap_where) rfl rfl ?_
  have e1 : callAt P (k + 5) 17 [.ref r.h, .int a] s = some (.bl true, s) := by rw [is_old H]; simp [c]
  simp -implicitDefEqProofs [b_Heap_where, need_address H h, e1, wOld]
theorem where_young {a : Int} (H : HpAt s r ls z half mk yw ow st) (h : a ∈ st) (hb : 0 ≤ z.b) (c : a ≤ z.a) : callAt P (k + 6) 62 [.ref r.h, .int a] s = some (wYoung, s) := by
  refine call_eq (fn := f_Heap_where) rfl rfl ?_
  have e1 : callAt P (k + 5) 17 [.ref r.h, .int a] s = some (.bl false, s) := by rw [is_old H]; unfold ob; simp; omega
  have e0 : atI [D.int z.a, .int z.b, .int z.c, .int z.d] 0 = some (.int z.a) := rfl
  have c' : ¬ z.a < a := by omega
  simp -implicitDefEqProofs [b_Heap_where, need_address H h, e1, wYoung, H.h, hpC, valF, szD, e0, c']
/-! ### a new object -/
def rootsD (rs : List Int) : D := .tup (rs.map .int)
theorem need_roots {rs : List Int} (H : HpAt s r ls z half mk yw ow st) (h : rs.length ≤ 40000) (hr : ∀ a ∈ rs, a = 0 ∨ a ∈ st) : callAt P (k + 2) 34 [.ref r.h, rootsD rs] s = some (.non, s) := by
  refine call_eq (fn := f_need_roots) rfl rfl ?_
  have h1 : ¬ (40000 : Int) < ((rs.length : Nat) : Int) := by omega
  simp -implicitDefEqProofs [b_need_roots, rootsD, h1, x_for]
  refine wp_forL (fun i ρ s' => s' = s ∧ ∃ o, ρ = [some (.ref r.h), some (rootsD rs), o]) (fun _ _ _ _ _ => GOk_nil) ?_ ?_ ⟨rfl, _, rfl⟩
  · rintro i ρ s' hi ⟨rfl, o, rfl⟩
    rw [List.getElem_map]
    have hm := hr _ (List.getElem_mem (by simpa using hi : i < rs.length))
    generalize rs[i]'(by simpa using hi) = a at hm
    by_cases c : a = 0
    · simp -implicitDefEqProofs [is_int, c, H.h, hpC, valF, H.st, stC, st_has]
    · have c2 := hm.resolve_left c
      simp -implicitDefEqProofs [is_int, c, c2, H.h, hpC, valF, H.st, stC, st_has]
  · rintro ρ s' ⟨rfl, o, rfl⟩
    simp -implicitDefEqProofs
theorem head_of {kd col : Int} : callAt P (k + 1) 10 [.int kd, .int 0, .int col] s = some (.int ((kd + 3) * 64 + col), s) := by
  refine call_eq (fn := f_head_of) rfl rfl ?_
  have e1 : bopI .mul (kd + 3) 64 = some ((kd + 3) * 64) := bopI_mul (.inr (by omega))
  have e2 : bopI .mul 0 4 = some 0 := rfl
  simp -implicitDefEqProofs [b_head_of, e1, e2]
def zs (m : Int) : List Int := List.replicate m.toNat 0
def objW (kd col m : Int) : List Int := ((kd + 3) * 64 + col) :: m :: zs m
theorem put_behind {g : Nat} {b kd col m : Int} {ws : List Int} (hg : s[g]? = some (wsC ws)) (h0 : 0 ≤ m) (hm : m ≤ 10000) (hw : ws.length ≤ 10000) : callAt P (k + 2) 30 [.ref g, .int b, .int kd, .int 0, .int col, .lst ((zs m).map .int)] s = some (.int (b + ws.length), s.set g (wsC (ws ++ objW kd col m))) := by
  refine call_eq (fn := f_put_behind) rfl rfl ?_
  have hl := lt_of hg
  have hset : ∀ c, (s.set g c)[g]? = some c := fun c => set_get hl
  have c1 : ws.length < LINE := by unfold LINE; omega
  have c2 : ws.length + 1 < LINE := by unfold LINE; omega
  have c3 : ws.length + 1 + 1 + (zs m).length ≤ LINE := by unfold LINE zs; simp; omega
  have c4 : (zs m).length = m := by unfold zs; simp; omega
  clear hl
  simp -implicitDefEqProofs [b_put_behind, hg, wsC, head_of, hset, c1, c2, bmL_extend, c3, c4]
  exact FinQ_keep set_len ⟨rfl, rfl⟩
theorem putK_st {a : Int} (h : a ∉ st) : putK (st.map fun a => ((.inl a : Ky), D.bl true)) (.inl a) (.bl true) = (st ++ [a]).map fun a => (.inl a, .bl true) := by
  unfold putK
  have : (List.any (st.map fun a => ((.inl a : Ky), D.bl true)) fun kv => decide (kv.1 = .inl a)) = false := by
    rw [List.any_eq_false]
    intro p hp
    obtain ⟨b, hb, rfl⟩ := List.mem_map.mp hp
    simp
    rintro rfl
    exact h hb
  rw [this]
  simp
theorem rep0 {m : Int} : (List.replicate m.toNat [D.int 0]).flatten = (zs m).map .int := by simp [zs]
/-- behind the making of an object in the old room -/
def stOld (s : St) (r : HR) (ow st : List Int) (kd col m a : Int) : St := (s.set r.old (wsC (ow ++ objW kd col m))).set r.st (stC (st ++ [a]))
def stYoung (s : St) (r : HR) (yw st : List Int) (kd m a : Int) : St := (s.set r.nur (wsC (yw ++ objW kd 0 m))).set r.st (stC (st ++ [a]))
theorem HpAt.old_made (H : HpAt s r ls z half mk yw ow st) (R : HRok r) {kd col m a : Int} : HpAt (stOld s r ow st kd col m a) r ls z half mk yw (ow ++ objW kd col m) (st ++ [a]) := by
  have l1 := lt_of H.old
  have l2 := lt_of H.st
  unfold stOld
  constructor
  · rw [set_ne R.c1, set_ne R.b1, H.h]
  · rw [set_ne R.c5, set_ne R.b5, H.nur]
  · rw [set_ne R.c2, set_ne R.b2, H.hv]
  · rw [set_ne R.c3, set_ne R.b3, H.ha]
  · rw [set_ne R.c4, set_ne R.b4, H.hb]
  · rw [set_ne R.c8, set_get l1]
  · rw [set_ne R.c6, set_ne R.b6, H.kept]
  · rw [set_ne R.c7, set_ne R.b7, H.grey]
  · rw [set_get (by rw [set_len]; exact l2)]
theorem HpAt.young_made (H : HpAt s r ls z half mk yw ow st) (R : HRok r) {kd m a : Int} : HpAt (stYoung s r yw st kd m a) r ls z half mk (yw ++ objW kd 0 m) ow (st ++ [a]) := by
  have l1 := lt_of H.nur
  have l2 := lt_of H.st
  unfold stYoung
  constructor
  · rw [set_ne R.c1, set_ne R.a1, H.h]
  · rw [set_ne R.c5, set_get l1]
  · rw [set_ne R.c2, set_ne R.a2, H.hv]
  · rw [set_ne R.c3, set_ne R.a3, H.ha]
  · rw [set_ne R.c4, set_ne R.a4, H.hb]
  · rw [set_ne R.c8, set_ne R.a5, H.old]
  · rw [set_ne R.c6, set_ne R.a6, H.kept]
  · rw [set_ne R.c7, set_ne R.a7, H.grey]
  · rw [set_get (by rw [set_len]; exact l2)]
theorem make_old (H : HpAt s r ls z half mk yw ow st) (R : HRok r) {kd m : Int} {rs : List Int} (k0 : -3 ≤ kd) (k1 : kd < ls.length) (hm : ManyOk ls kd m) (m0 : 0 ≤ m) (m1 : m ≤ 1000)
    (h : rs.length ≤ 40000) (hr : ∀ a ∈ rs, a = 0 ∨ a ∈ st) (hs : ow.length ≤ 8000) (hl : st.length < 100000) (hn : ob z + ow.length ∉ st) (big : z.c < 2 + m) :
    callAt P (k + 4) 59 [.ref r.h, .int kd, .int m, rootsD rs] s = some (.tup [.int (ob z + ow.length), rootsD rs], stOld s r ow st kd (if mk = true then 2 else 0) m (ob z + ow.length)) := by
  refine call_eq (fn := f_Heap_make) rfl rfl ?_
  have e2 : atI [D.int z.a, .int z.b, .int z.c, .int z.d] 2 = some (.int z.c) := rfl
  have n1 := need_kind (k := k) (s := s) k0 k1
  have n2 := need_size (k := k) (s := s) hm
  have n3 := need_roots (k := k + 1) H h hr
  have o1 := old_begin (k := k + 2) (s := s) (z := z)
  have p1 := put_behind (k := k + 1) (b := ob z) (kd := kd) (col := if mk = true then 2 else 0) H.old m0 (by omega) (by omega)
  have c1 : -(9223372036854775808 : Int) ≤ m := by omega
  have c1b : m < 9223372036854775808 := by omega
  have c1c : m ≤ 16777216 := by omega
  have zr : (zs m).map D.int = List.replicate m.toNat (D.int 0) := by simp [zs]
  rw [zr] at p1
  have c2 : (s.set r.old (wsC (ow ++ objW kd (if mk = true then 2 else 0) m)))[r.h]? = some (hpC r ls z half 0 mk) := by rw [set_ne R.b1]; exact H.h
  have c3 : (s.set r.old (wsC (ow ++ objW kd (if mk = true then 2 else 0) m)))[r.st]? = some (stC st) := by rw [set_ne R.b8]; exact H.st
  have c4 : st.length < LINE := by unfold LINE; omega
  rw [szD] at o1
  have q := putK_st hn
  have hh := H.h
  have ho := H.old
  have c4' : st.length < 16777216 := c4
  rw [hpC, szD] at hh c2
  rw [stC] at c3
  cases mk
  · simp at p1 c2 c3
    simp -implicitDefEqProofs [b_Heap_make, hh, valF, n1, n2, n3, o1, p1, c1, c1b, c1c, c2, c3, c4', e2, big, q, LINE]
    exact FinQ_keep (by rw [set_len, set_len]) ⟨rfl, by simp [stOld, stYoung, stC]⟩
  · simp at p1 c2 c3
    simp -implicitDefEqProofs [b_Heap_make, hh, valF, n1, n2, n3, o1, p1, c1, c1b, c1c, c2, c3, c4', e2, big, q, LINE]
    exact FinQ_keep (by rw [set_len, set_len]) ⟨rfl, by simp [stOld, stYoung, stC]⟩
theorem make_young (H : HpAt s r ls z half mk yw ow st) (R : HRok r) {kd m : Int} {rs : List Int} (k0 : -3 ≤ kd) (k1 : kd < ls.length) (hm : ManyOk ls kd m) (m0 : 0 ≤ m) (m1 : m ≤ 1000)
    (h : rs.length ≤ 40000) (hr : ∀ a ∈ rs, a = 0 ∨ a ∈ st) (hs : yw.length ≤ 8000) (hl : st.length < 100000) (hn : 1 + (yw.length : Int) ∉ st) (big : ¬ z.c < 2 + m) (fits : ¬ z.a < yw.length + 2 + m) :
    callAt P (k + 4) 59 [.ref r.h, .int kd, .int m, rootsD rs] s = some (.tup [.int (1 + yw.length), rootsD rs], stYoung s r yw st kd m (1 + yw.length)) := by
  refine call_eq (fn := f_Heap_make) rfl rfl ?_
  have e0 : atI [D.int z.a, .int z.b, .int z.c, .int z.d] 0 = some (.int z.a) := rfl
  have e2 : atI [D.int z.a, .int z.b, .int z.c, .int z.d] 2 = some (.int z.c) := rfl
  have n1 := need_kind (k := k) (s := s) k0 k1
  have n2 := need_size (k := k) (s := s) hm
  have n3 := need_roots (k := k + 1) H h hr
  have p1 := put_behind (k := k + 1) (b := 1) (kd := kd) (col := 0) H.nur m0 (by omega) (by omega)
  have c1 : -(9223372036854775808 : Int) ≤ m := by omega
  have c1b : m < 9223372036854775808 := by omega
  have c1c : m ≤ 16777216 := by omega
  have zr : (zs m).map D.int = List.replicate m.toNat (D.int 0) := by simp [zs]
  rw [zr] at p1
  have c2 : (s.set r.nur (wsC (yw ++ objW kd 0 m)))[r.h]? = some (hpC r ls z half 0 mk) := by rw [set_ne R.a1]; exact H.h
  have c3 : (s.set r.nur (wsC (yw ++ objW kd 0 m)))[r.st]? = some (stC st) := by rw [set_ne R.a8]; exact H.st
  have c4 : st.length < LINE := by unfold LINE; omega
  have q := putK_st hn
  have hh := H.h
  have ho := H.nur
  have c4' : st.length < 16777216 := c4
  rw [hpC, szD] at hh c2
  rw [stC] at c3
  rw [wsC] at ho
  simp -implicitDefEqProofs [b_Heap_make, hh, ho, valF, n1, n2, n3, p1, c1, c1b, c1c, c2, c3, c4', e0, e2, big, fits, q, LINE]
  exact FinQ_keep (by rw [set_len, set_len]) ⟨rfl, by simp [stOld, stYoung, stC]⟩
end
end K
end

section
set_option linter.all false
set_option maxRecDepth 10000
namespace VI
theorem w_meth {P : Prog} {cl : Nat → List D → M D} {s : St} {n c m f : Nat} {fs : List (Nat × D)} {vs : M (List D)} {Q : D → St → Prop} (h : s[n]? = some (.ins c fs)) (hf : P.meth c m = some f) (hv : valF fs m = none) : wp (methC P cl m (.ref n) vs) Q s = wp (bnd vs fun vs => cl f (.ref n :: vs)) Q s := by
  have e : methC P cl m (.ref n) vs s = bnd vs (fun vs => cl f (.ref n :: vs)) s := by
    unfold methC
    simp only [h, hf, hv]
  unfold wp
  rw [e]
@[simp] theorem bi_tuple_ref {s : St} {n : Nat} {w} : biM .tuple w [.ref n] s = (lstR s[n]?).map fun x => (.tup x, s) := rfl
end VI
namespace K
open VI
section
variable {k : Nat} {s : St} {r : HR} {ls : List (List Bool)} {z : Sz} {half : Int} {mk : Bool} {yw ow st : List Int}
/-- an object is there as it is known -/
structure Known (s : St) (r : HR) (a kd m : Int) (w : D) : Prop where
  kd : ∀ k, callAt P (k + 6) 60 [.ref r.h, .int a] s = some (.int kd, s)
  m : ∀ k, callAt P (k + 6) 61 [.ref r.h, .int a] s = some (.int m, s)
  wh : ∀ k, callAt P (k + 6) 62 [.ref r.h, .int a] s = some (w, s)
  ws : w = wOld ∨ w = wYoung
def dueD (kd m : Int) (w : D) : D := .tup [.int kd, .int m, w]
theorem told {a kd m : Int} {w : D} (H : HpAt s r ls z half mk yw ow st) (K : Known s r a kd m w) : callAt P (k + 7) 54 [.ref r.h, .int a, dueD kd m w] s = some (.bl true, s) := by
  refine call_eq (fn := f_l_told) rfl rfl ?_
  have hm := H.h
  rw [hpC] at hm
  have m19 := fun cl vs Q => w_meth (P := P) (cl := cl) (vs := vs) (Q := Q) (m := 19) (f := 60) hm rfl rfl
  have m20 := fun cl vs Q => w_meth (P := P) (cl := cl) (vs := vs) (Q := Q) (m := 20) (f := 61) hm rfl rfl
  have m21 := fun cl vs Q => w_meth (P := P) (cl := cl) (vs := vs) (Q := Q) (m := 21) (f := 62) hm rfl rfl
  have e : callAt P (k + 6) 48 [dueD kd m w, dueD kd m w] s = some (.bl true, s) := by
    refine same (n := 1) (k := k + 4) ?_
    rcases K.ws with h | h <;> rw [h] <;> simp [dueD, sm, smAll, wOld, wYoung]
  rw [dueD] at e
  simp -implicitDefEqProofs [b_l_told, ↓m19, ↓m20, ↓m21, K.kd, K.m, K.wh, dueD, e, LINE]
/-! ### what is there, counted -/
/-- a room's words, object by object -/
def wordsOf : List (Int × Int × Int) → List Int
  | [] => []
  | (kd, col, m) :: t => objW kd col m ++ wordsOf t
theorem objW_len {kd col m : Int} (h : 0 ≤ m) : ((objW kd col m).length : Int) = 2 + m := by
  simp [objW, zs]; omega
/-- the first words' addresses -/
def addrs (b : Int) : List (Int × Int × Int) → List Int
  | [] => []
  | (_, _, m) :: t => b :: addrs (b + 2 + m) t
def allM (os : List (Int × Int × Int)) : Prop := ∀ o ∈ os, 0 ≤ o.2.2
theorem addrs_len {b : Int} {os} : (addrs b os).length = os.length := by
  induction os generalizing b with
  | nil => rfl
  | cons o t ih => obtain ⟨kd, col, m⟩ := o; simp [addrs, ih]
theorem wordsOf_app {a b} : wordsOf (a ++ b) = wordsOf a ++ wordsOf b := by
  induction a with
  | nil => rfl
  | cons o t ih => obtain ⟨kd, col, m⟩ := o; simp [wordsOf, ih]
theorem addrs_app {b : Int} {x y} (h : allM x) : addrs b (x ++ y) = addrs b x ++ addrs (b + (wordsOf x).length) y := by
  induction x generalizing b with
  | nil => simp [addrs, wordsOf]
  | cons o t ih =>
    obtain ⟨kd, col, m⟩ := o
    have h0 : 0 ≤ m := h _ (List.mem_cons_self ..)
    have := objW_len (kd := kd) (col := col) h0
    rw [List.cons_append, addrs, addrs, ih (fun o ho => h o (List.mem_cons_of_mem _ ho)), wordsOf, List.length_append]
    have e : b + 2 + m + ((wordsOf t).length : Int) = b + (((objW kd col m).length + (wordsOf t).length : Nat) : Int) := by omega
    rw [e]; rfl
theorem len_words {os} : os.length ≤ (wordsOf os).length := by
  induction os with
  | nil => exact Nat.le_refl _
  | cons o t ih => obtain ⟨kd, col, m⟩ := o; simp [wordsOf, objW]; omega
theorem objects_from {g : Nat} {b : Int} {os : List (Int × Int × Int)} (hg : s[g]? = some (wsC (wordsOf os))) (ha : allM os) (hl : (wordsOf os).length ≤ 16777216) :
    callAt P (k + 1) 29 [.ref g, .int b] s = some (.ref s.length, s ++ [.lst ((addrs b os).map .int)]) := by
  refine call_eq (fn := f_objects_from) rfl rfl ?_
  have l0 := lt_of hg
  simp -implicitDefEqProofs [b_objects_from, LINE, x_whl]
  refine wp_whileN (fun n ρ s' => ∃ o1 o2, os = o1 ++ o2 ∧ o2.length = n ∧ ρ = [some (.ref g), some (.int b), some (.ref s.length), some (.int (wordsOf o1).length)] ∧ s' = s ++ [.lst ((addrs b o1).map .int)]) ?_ (m := os.length) (by have := @len_words os; unfold FUEL; omega) ⟨[], os, rfl, rfl, rfl, rfl⟩
  rintro n ρ s' ⟨o1, o2, rfl, rfl, rfl, rfl⟩
  have hg' : ∀ c : Cell, (s ++ [c])[g]? = some (wsC (wordsOf (o1 ++ o2))) := fun c => by rw [app_get l0]; exact hg
  have ha1 : allM o1 := fun o ho => ha o (List.mem_append_left _ ho)
  cases o2 with
  | nil =>
    simp -implicitDefEqProofs [hg', wsC]
    refine FinQ_new (by simp [D.und]) ⟨rfl, rfl⟩
  | cons o t =>
    obtain ⟨kd, col, m⟩ := o
    have h0 : 0 ≤ m := ha (kd, col, m) (by simp)
    have hlen := objW_len (kd := kd) (col := col) h0
    rw [wordsOf_app, List.length_append, wordsOf, List.length_append] at hl
    have c1 : ((wordsOf o1).length : Int) < ((wordsOf (o1 ++ (kd, col, m) :: t)).length : Int) := by
      rw [wordsOf_app, List.length_append, wordsOf, List.length_append]; omega
    have c2 : atI ((wordsOf (o1 ++ (kd, col, m) :: t)).map D.int) ((wordsOf o1).length + 1) = some (.int m) := by
      have : ((wordsOf o1).length + 1 : Int) = (((wordsOf o1).length + 1 : Nat) : Int) := by omega
      rw [this]
      refine atI_nat ?_
      rw [wordsOf_app, wordsOf]
      simp [objW]
    have c3 : (addrs b o1).length < 16777216 := by
      have := @len_words o1
      rw [addrs_len]; omega
    have hn : ∀ c : Cell, (s ++ [c])[s.length]? = some c := fun c => app_new rfl
    have hs : ∀ c c' : Cell, (s ++ [c]).set s.length c' = s ++ [c'] := fun c c' => app_setn rfl
    clear l0
    simp -implicitDefEqProofs [hg', wsC, c1, c2, c3, hn, hs, LINE]
    refine ⟨t.length, Nat.lt_succ_self _, o1 ++ [(kd, col, m)], t, by simp, rfl, ?_, ?_⟩
    · rw [wordsOf_app, List.length_append, wordsOf, List.length_append, wordsOf]
      simp; omega
    · rw [addrs_app ha1]
      simp [addrs]
/-! ### a heap's own words about itself -/
theorem half_begin {h : Int} (hh : h = 0 ∨ h = 1) : callAt P (k + 1) 15 [szD z, .int h] s = some (.int (z.a + h * z.b + 1), s) := by
  refine call_eq (fn := f_half_begin) rfl rfl ?_
  have e0 : atI [D.int z.a, .int z.b, .int z.c, .int z.d] 0 = some (.int z.a) := rfl
  have e1 : atI [D.int z.a, .int z.b, .int z.c, .int z.d] 1 = some (.int z.b) := rfl
  have e : bopI .mul h z.b = some (h * z.b) := bopI_mul (.inl (by omega))
  simp -implicitDefEqProofs [b_half_begin, szD, e0, e1, e]
theorem HpAt.app {t : St} (H : HpAt s r ls z half mk yw ow st) : HpAt (s ++ t) r ls z half mk yw ow st := by
  constructor
  · rw [app_get (lt_of H.h)]; exact H.h
  · rw [app_get (lt_of H.nur)]; exact H.nur
  · rw [app_get (lt_of H.hv)]; exact H.hv
  · rw [app_get (lt_of H.ha)]; exact H.ha
  · rw [app_get (lt_of H.hb)]; exact H.hb
  · rw [app_get (lt_of H.old)]; exact H.old
  · rw [app_get (lt_of H.kept)]; exact H.kept
  · rw [app_get (lt_of H.grey)]; exact H.grey
  · rw [app_get (lt_of H.st)]; exact H.st
/-- what only was made, and is told of nowhere, is dropped -/
theorem FinQ_garb {Q : D → St → Prop} {d : D} {t : St} (h : d.pure = true) (q : Q d s) : FinQ s Q d (s ++ t) := by
  refine FinQ_drop ⟨by simp, und_pure h, fun i hi => .inl (app_get hi)⟩ ?_
  rw [List.take_left]
  exact q
theorem counts {os us : List (Int × Int × Int)} (H : HpAt s r ls z half mk (wordsOf os) (wordsOf us) st) (ho : allM os) (l1 : (wordsOf os).length ≤ 16777216) (hh : half = 0 ∨ half = 1) :
    callAt P (k + 3) 64 [.ref r.h] s = some (.tup [.int (wordsOf os).length, .int 0, .int (wordsOf us).length, .int os.length, .int 0, .int (st.length - os.length)], s) := by
  refine call_eq (fn := f_Heap_counts) rfl rfl ?_
  have e1 := objects_from (k := k + 1) (b := 1) H.nur ho l1
  generalize hA : Cell.lst ((addrs 1 os).map .int) = A at e1
  have H1 := H.app (t := [A])
  have at0 : ∀ x y : D, atI [x, y] 0 = some x := fun _ _ => rfl
  have at1 : ∀ x y : D, atI [x, y] 1 = some y := fun _ _ => rfl
  obtain ⟨g, hg, e2⟩ : ∃ g, atI [D.ref r.ha, .ref r.hb] half = some (.ref g) ∧ callAt P (k + 2) 29 [.ref g, .int (z.a + half * z.b + 1)] (s ++ [A]) = some (.ref (s ++ [A]).length, s ++ [A] ++ [.lst []]) ∧ (s ++ [A] ++ [.lst []])[g]? = some (.lst []) := by
    rcases hh with h | h
    · refine ⟨r.ha, by rw [h]; rfl, objects_from (k := k + 1) (os := []) H1.ha (fun _ h => nomatch h) (by simp [wordsOf]), H1.app.ha⟩
    · refine ⟨r.hb, by rw [h]; rfl, objects_from (k := k + 1) (os := []) H1.hb (fun _ h => nomatch h) (by simp [wordsOf]), H1.app.hb⟩
  obtain ⟨e2, hg2⟩ := e2
  have H2 := H1.app (t := [.lst []])
  have e3 := half_begin (k := k + 1) (s := s ++ [A]) (z := z) hh
  have gA : (s ++ [A])[s.length]? = some A := app_new rfl
  have gB : (s ++ [A] ++ [.lst []])[(s ++ [A]).length]? = some (.lst []) := app_new rfl
  have a1 := H.h; have a2 := H1.h; have a3 := H2.h
  have b1 := H.hv; have b3 := H2.nur; have b4 := H2.old; have b5 := H2.st
  rw [hpC] at a1 a2 a3
  rw [wsC] at b3 b4
  rw [stC] at b5
  rw [szD] at e3
  rw [← hA] at *
  clear H H1 H2 hA
  generalize hs1 : s ++ [Cell.lst ((addrs 1 os).map .int)] = s1 at *
  generalize hs2 : s1 ++ [Cell.lst []] = s2 at *
  simp -implicitDefEqProofs [b_Heap_counts, a1, b1, valF, hg, e1, gA, a2, szD, e3, e2, gB, a3, b3, b4, b5, hg2, LINE, addrs_len]
  rw [← hs2, ← hs1, List.append_assoc]
  exact FinQ_garb (by simp [D.pure, pureAll]) ⟨rfl, rfl⟩
theorem sorted_dic0 {n : Nat} (h : s[n]? = some (.dic false [])) : biM .sorted false [.ref n] s = some (.lst [], s) := by
  simp [biM, h, keyInts, sortI]
  rfl
theorem remembered (H : HpAt s r ls z half mk yw ow st) : callAt P (k + 1) 63 [.ref r.h] s = some (.tup [], s) := by
  refine call_eq (fn := f_Heap_remembered) rfl rfl ?_
  have a1 := H.h
  rw [hpC] at a1
  simp -implicitDefEqProofs [b_Heap_remembered, a1, valF, sorted_dic0 H.kept]
theorem is_marking (H : HpAt s r ls z half mk yw ow st) : callAt P (k + 1) 66 [.ref r.h] s = some (.bl mk, s) := by
  refine call_eq (fn := f_Heap_is_marking) rfl rfl ?_
  have a1 := H.h
  rw [hpC] at a1
  simp -implicitDefEqProofs [b_Heap_is_marking, a1, valF]
def picD (yw : List Int) (half : Int) (ow : List Int) (mk : Bool) : D := .tup [.tup (yw.map .int), .int half, .tup [], .tup (ow.map .int), .tup [], .tup [], .bl mk]
theorem picture (H : HpAt s r ls z half mk yw ow st) (hh : half = 0 ∨ half = 1) : callAt P (k + 2) 67 [.ref r.h] s = some (picD yw half ow mk, s) := by
  obtain ⟨g, hg, hg2⟩ : ∃ g, atI [D.ref r.ha, .ref r.hb] half = some (.ref g) ∧ s[g]? = some (.lst []) := by
    rcases hh with h | h
    · exact ⟨r.ha, by rw [h]; rfl, H.ha⟩
    · exact ⟨r.hb, by rw [h]; rfl, H.hb⟩
  have a1 := H.h; have a2 := H.hv; have a3 := H.nur; have a4 := H.old; have a5 := H.grey
  rw [hpC] at a1
  rw [wsC] at a3 a4
  have c0 : cut ([] : List D) (some 0) none = [] := rfl
  have e : callAt P (k + 1) 43 [.ref r.h] s = some (picD yw half ow mk, s) := by
    refine call_eq (fn := f_picture_of) rfl rfl ?_
    have sl : ∀ {w a b}, slcM w (.ref r.grey) a b s = VI.mk w (cut [] a b) s := by
      intro w a b
      simp [slcM, a5]
    simp -implicitDefEqProofs [b_picture_of, a1, a2, a3, a4, valF, hg, hg2, sorted_dic0 H.kept, sl, c0, LINE, picD]
  refine call_eq (fn := f_Heap_picture) rfl rfl ?_
  simp -implicitDefEqProofs [b_Heap_picture, e]
end
end K
end

section
set_option linter.all false
set_option maxRecDepth 10000
namespace K
open VI
def rr (n : Nat) : HR := ⟨n, n + 1, n + 4, n + 2, n + 3, n + 5, n + 6, n + 7, n + 8⟩
def heap0 (n : Nat) (ls : List (List Bool)) (z : Sz) : List Cell := [hpC (rr n) ls z 0 0 false, .lst [], .lst [], .lst [], .lst [.ref (n + 2), .ref (n + 3)], .lst [], .dic false [], .lst [], .dic false []]
section
variable {k : Nat} {s : St} {r : HR} {ls : List (List Bool)} {z : Sz} {half : Int} {mk : Bool} {yw ow st : List Int}
theorem init1 {c0 : Cell} (hl : ShOk ls) (hz : SzOk z) : callAt P (k + 4) 58 [.ref 1, shD ls, szD z] [c0, .ins 1 []] = some (.non, c0 :: heap0 1 ls z) := by
  refine call_eq (fn := f_Heap_init) rfl rfl ?_
  simp -implicitDefEqProofs [b_Heap_init, need_shapes hl, need_sizes hz, putF, LINE]
  refine FinQ_hold (i := 1) (c := hpC (rr 1) ls z 0 0 false) (by simp) rfl (by simp [hpC]) ?_ ⟨rfl, rfl⟩
  exact und_ins (f := 1) (k := 2) (by simp [rr]) (by simp)
theorem init2 {c0 : Cell} (hl : ShOk ls) (hz : SzOk z) : callAt P (k + 4) 58 [.ref 10, shD ls, szD z] (c0 :: heap0 1 ls z ++ [.ins 1 []]) = some (.non, c0 :: heap0 1 ls z ++ heap0 10 ls z) := by
  refine call_eq (fn := f_Heap_init) rfl rfl ?_
  simp -implicitDefEqProofs [b_Heap_init, need_shapes hl, need_sizes hz, putF, LINE, heap0]
  refine FinQ_hold (i := 10) (c := hpC (rr 10) ls z 0 0 false) (by simp) rfl (by simp [hpC]) ?_ ⟨rfl, rfl⟩
  exact und_ins (f := 1) (k := 11) (by simp [rr]) (by simp)
end
end K
end

section
set_option linter.all false
set_option maxRecDepth 10000
namespace VI
theorem forL_nil {g} {b : D → Env → M (Fl × Env)} {ρ : Env} : forL g b [] ρ = bnd (guard g) fun _ => ret (.next, ρ) := by rw [forL]
theorem wp_ford0 {P : Prog} {cl : Nat → List D → M D} {ρ : Env} {s : St} {t a b} {n : Nat} {Q : Fl × Env → St → Prop} (h : wp (evalE P cl a ρ) (fun d s' => d = .ref n ∧ s' = s) s) (hn : s[n]? = some (.dic false [])) (hv : wp (evalE P cl a ρ) (fun d s' => d = .ref n ∧ s' = s.set n (.dic true [])) (s.set n (.dic true []))) (q : Q (.next, ρ) s) : wp (execS P cl (.ford t .values a b) ρ) Q s := by
  obtain ⟨d, s', e, rfl, rfl⟩ := wp_iff.mp h
  obtain ⟨d, s', e', rfl, rfl⟩ := wp_iff.mp hv
  have l := lt_of hn
  have hn2 : (s'.set n (Cell.dic true []))[n]? = some (.dic true []) := set_get l
  unfold wp
  rw [execS]
  simp only [e, hn]
  unfold lockM
  simp only [hn]
  have e2 : bnd (evalE P cl a ρ) (fun x => bnd (iterD .values x) fun w => forL w.2 (fun d ρ => bnd (asgT P cl t d ρ) fun ρ' => execSs P cl b ρ') w.1 ρ) (s'.set n (.dic true [])) = some ((.next, ρ), s'.set n (.dic true [])) := by
    unfold bnd
    simp only [e', iterD, hn2]
    simp only [List.map_nil, forL_nil]
    have : wp (bnd (guard []) fun _ => ret (Fl.next, ρ)) (fun w t => w = (.next, ρ) ∧ t = s'.set n (.dic true [])) (s'.set n (.dic true [])) := by
      rw [w_bnd]
      exact wp_guard GOk_nil ⟨rfl, rfl⟩
    obtain ⟨w, t, e3, rfl, rfl⟩ := wp_iff.mp this
    exact e3
  rw [e2]
  simp only [hn2, List.set_set]
  rw [set_self hn]
  exact q
end VI
namespace K
open VI
section
variable {k : Nat} {s : St} {r : HR} {ls : List (List Bool)} {z : Sz} {half : Int} {mk : Bool} {yw ow st : List Int}
@[simp] theorem fm9 : P.fld 0 9 = true := rfl
@[simp] theorem fm10 : P.fld 0 10 = true := rfl
@[simp] theorem fm11 : P.fld 0 11 = true := rfl
@[simp] theorem fm12 : P.fld 0 12 = true := rfl
@[simp] theorem fm14 : P.fld 0 14 = true := rfl
@[simp] theorem fm15 : P.fld 0 15 = true := rfl
@[simp] theorem fm16 : P.fld 0 16 = true := rfl
@[simp] theorem fm17 : P.fld 0 17 = true := rfl
def st0 (c0 : Cell) (ls : List (List Bool)) (z : Sz) : St := c0 :: heap0 1 ls z ++ heap0 10 ls z
def mvC (z : Sz) : Cell := .ins 0 [(9, .ref 1), (11, .bl true), (14, .ref 20), (10, .ref 4), (12, .int (z.a + z.b + 1)), (17, .int 0), (15, .int 0), (16, .int 0)]
theorem at2a {x y : D} : atI [x, y] 0 = some x := rfl
theorem at2b {x y : D} : atI [x, y] 1 = some y := rfl
theorem mv_init {c0 : Cell} : callAt P (k + 2) 57 [.ref 19, .ref 1, .bl true] (st0 c0 ls z ++ [.ins 0 []]) = some (.non, st0 c0 ls z ++ [mvC z, .dic false []]) := by
  refine call_eq (fn := f_Moving_init) rfl rfl ?_
  have e := fun s => half_begin (k := k) (s := s) (z := z) (h := 1) (.inr rfl)
  rw [szD] at e
  simp -implicitDefEqProofs [b_Moving_init, st0, heap0, hpC, rr, valF, putF, LINE, at2a, at2b, szD, e]
  refine FinQ_hold (i := 19) (c := mvC z) (by simp) rfl (by simp [mvC]) ?_ ⟨rfl, rfl⟩
  exact und_ins (f := 14) (k := 20) (by simp) (by simp)
end
end K
end

section
set_option linter.all false
set_option maxRecDepth 10000
namespace VI
@[simp ↓] theorem wg0 {Q : Unit → St → Prop} {s : St} : wp (guard []) Q s = Q () s := by
  unfold wp guard
  rw [if_pos (fun _ h => nomatch h)]
  rfl
@[simp ↓] theorem wf0 {g} {b : D → Env → M (Fl × Env)} {ρ : Env} {Q : Fl × Env → St → Prop} {s : St} : wp (forL g b [] ρ) Q s = wp (bnd (guard g) fun _ => ret (.next, ρ)) Q s := by rw [forL_nil]
@[simp ↓] theorem wm0 {g} {f : D → M (Option D)} {a} {Q : List D → St → Prop} {s : St} : wp (mapG g f [] a) Q s = wp (bnd (guard g) fun _ => ret a) Q s := by rw [mapG]
end VI
namespace K
open VI
section
variable {k : Nat} {s : St} {r : HR} {ls : List (List Bool)} {z : Sz} {half : Int} {mk : Bool} {yw ow st : List Int} {c0 : Cell}
def st1 (c0 : Cell) (ls : List (List Bool)) (z : Sz) : St := st0 c0 ls z ++ [mvC z, .dic false []]
theorem yo : callAt P (k + 2) 31 [.ref 1] (st1 c0 ls z) = some (.lst [], st1 c0 ls z) := by
  refine call_eq (fn := f_young_objects) rfl rfl ?_
  have e1 := objects_from (k := k) (s := st1 c0 ls z) (g := 2) (b := 1) (os := []) rfl (fun _ h => nomatch h) (by simp [wordsOf])
  have e2 := objects_from (k := k) (s := st1 c0 ls z ++ [.lst []]) (g := 3) (b := z.a + 0 * z.b + 1) (os := []) rfl (fun _ h => nomatch h) (by simp [wordsOf])
  have e3 := fun s => half_begin (k := k) (s := s) (z := z) (h := 0) (.inl rfl)
  rw [szD] at e3
  simp [addrs, st1, st0, heap0, hpC, rr, szD] at e1 e2 e3
  simp -implicitDefEqProofs [b_young_objects, st1, st0, heap0, hpC, rr, valF, e1, e2, e3, at2a, szD, LINE]
  exact FinQ_garb (t := [_, _]) rfl ⟨rfl, rfl⟩
theorem ls0 : callAt P (k + 1) 39 [.ref 19, .lst []] s = some (.non, s) := by
  refine call_eq (fn := f_lead_slots) rfl rfl ?_
  simp -implicitDefEqProofs [b_lead_slots, x_for]
theorem ks0 : callAt P (k + 1) 32 [.ref 1, .lst []] s = some (.non, s) := by
  refine call_eq (fn := f_keep_slots) rfl rfl ?_
  simp -implicitDefEqProofs [b_keep_slots, x_for]
theorem sa0 : callAt P (k + 1) 36 [.ref 1, .tup []] s = some (.non, s) := by
  refine call_eq (fn := f_shade_all) rfl rfl ?_
  simp -implicitDefEqProofs [b_shade_all, x_for]
theorem lm0 : callAt P (k + 2) 40 [.ref 19] (st1 c0 ls z) = some (.non, st1 c0 ls z) := by
  refine call_eq (fn := f_lead_moved) rfl rfl ?_
  have e3 := fun s => old_begin (k := k) (s := s) (z := z)
  rw [szD] at e3
  simp -implicitDefEqProofs [b_lead_moved, st1, st0, heap0, hpC, rr, valF, e3, szD, x_whl, mvC]
  refine wp_whileN (fun n ρ s' => n = 0 ∧ ρ = [some (.ref 19), some (.ref 1), some (.int (ob z)), none] ∧ s' = st1 c0 ls z) ?_ (m := 0) (by unfold FUEL; omega) ⟨rfl, rfl, rfl⟩
  rintro n ρ s' ⟨rfl, rfl, rfl⟩
  simp -implicitDefEqProofs [st1, st0, heap0, hpC, rr, valF, szD, mvC]
end
end K
end

section
set_option linter.all false
set_option maxRecDepth 10000
namespace VI
theorem w_make {P : Prog} {cl : Nat → List D → M D} {c n : Nat} {vs : List D} {kk : Cls} {s s' : St} {Q : D → St → Prop} (h : P.cls[c]? = some kk) (hn : s.length = n) (hi : cl kk.init (.ref n :: vs) (s ++ [.ins c []]) = some (.non, s')) : wp (makeC P cl c vs) Q s = Q (.ref n) s' := by
  subst hn
  unfold makeC wp
  rw [h]
  simp only [bnd, hi]
  rfl
end VI
namespace K
open VI
section
variable {k : Nat} {s : St} {r : HR} {ls : List (List Bool)} {z : Sz} {half : Int} {mk : Bool} {yw ow st : List Int} {c0 : Cell}
theorem objL {b : Int} : callAt P (k + 1) 29 [.lst [], .int b] s = some (.ref s.length, s ++ [.lst []]) := by
  refine call_eq (fn := f_objects_from) rfl rfl ?_
  simp -implicitDefEqProofs [b_objects_from, LINE, x_whl]
  refine wp_whileN (fun n ρ s' => n = 0 ∧ ρ = [some (.lst []), some (.int b), some (.ref s.length), some (.int 0)] ∧ s' = s ++ [.lst []]) ?_ (m := 0) (by unfold FUEL; omega) ⟨rfl, rfl, rfl⟩
  rintro n ρ s' ⟨rfl, rfl, rfl⟩
  simp -implicitDefEqProofs
  exact FinQ_new (by simp [D.und]) ⟨rfl, rfl⟩
def rb : HR := ⟨1, 21, 5, 22, 4, 6, 23, 25, 9⟩
/-- the first heap's cells, its parts at so -/
def hp1 (ls : List (List Bool)) (z : Sz) (nur half kept grey : Nat) (mk : Bool) (h0 : Nat) : List Cell :=
  [.ins 1 [(4, shD ls), (0, szD z), (1, .ref nur), (3, .ref 5), (5, .int half), (2, .ref 6), (6, .ref kept), (8, .ref grey), (18, .int 0), (13, .bl mk), (7, .ref 9)], .lst [], .lst [], .lst [], .lst [.ref h0, .ref 4], .lst [], .dic false [], .lst [], .dic false []]
def st2 (c0 : Cell) (ls : List (List Bool)) (z : Sz) : St := c0 :: hp1 ls z 21 1 7 8 false 22 ++ heap0 10 ls z ++ [mvC z, .dic false [], .lst [], .lst []]
def st3 (c0 : Cell) (ls : List (List Bool)) (z : Sz) : St := c0 :: hp1 ls z 21 1 23 8 false 22 ++ heap0 10 ls z ++ [mvC z, .dic false [], .lst [], .lst [], .dic false [], .lst []]
def st4 (c0 : Cell) (ls : List (List Bool)) (z : Sz) : St := c0 :: hp1 ls z 21 1 23 25 true 22 ++ heap0 10 ls z ++ [mvC z, .dic false [], .lst [], .lst [], .dic false [], .lst [], .lst []]
theorem slc_ref {w n a b} {l : List D} (h : s[n]? = some (.lst l)) : slcM w (.ref n) a b s = VI.mk w (cut l a b) s := by
  simp [slcM, h]
theorem ka0 : callAt P (k + 2) 41 [.ref 19, .lst []] (st2 c0 ls z) = some (.non, st3 c0 ls z) := by
  refine call_eq (fn := f_keep_anew) rfl rfl ?_
  have e3 := fun s => old_begin (k := k) (s := s) (z := z)
  rw [szD] at e3
  have c0' : cut ([] : List D) (some 0) none = [] := rfl
  have sl : ∀ {w a b} {c1 c2 c3 c4 c5 c6 : Cell} {t : St}, slcM w (.ref 6) a b (c1 :: c2 :: c3 :: c4 :: c5 :: c6 :: .lst [] :: t) = VI.mk w (cut [] a b) (c1 :: c2 :: c3 :: c4 :: c5 :: c6 :: .lst [] :: t) := fun {w a b c1 c2 c3 c4 c5 c6 t} => slc_ref rfl
  simp -implicitDefEqProofs [b_keep_anew, st2, hp1, heap0, hpC, rr, valF, putF, LINE, e3, szD, mvC, ks0, sl, c0', objL, x_for]
  refine wp_guard (fun p hp => by rw [List.mem_singleton.mp hp]; rfl) ?_
  exact FinQ_hold (i := 1) (by simp) rfl (by simp) (und_ins (f := 6) (k := 23) (by simp) (by simp)) ⟨rfl, rfl⟩
theorem mb0 : callAt P (k + 4) 42 [.ref 1, .tup [], .bl true] (st0 c0 ls z) = some (.tup [], st3 c0 ls z) := by
  refine call_eq (fn := f_moved_by) rfl rfl ?_
  show wp (execSs P (callAt P (k + 3)) b_moved_by [some (.ref 1), some (.tup []), some (.bl true), none, none, none, none, none, none]) _ _
  unfold b_moved_by
  refine seq_cut (fun ρ s' => ρ = [some (.ref 1), some (.tup []), some (.bl true), some (.ref 19), none, none, none, none, none] ∧ s' = st1 c0 ls z) ?_ ?_
  · have e := mv_init (k := k + 1) (c0 := c0) (ls := ls) (z := z)
    have w := fun Q => w_make (P := P) (c := 0) (n := 19) (vs := [.ref 1, .bl true]) (cl := callAt P (k + 3)) (Q := Q) (s := st0 c0 ls z) rfl rfl e
    simp -implicitDefEqProofs [↓w]
    rfl
  rintro _ _ ⟨rfl, rfl⟩
  have a1 := yo (k := k + 1) (c0 := c0) (ls := ls) (z := z)
  have a2 := fun s => ls0 (k := k + 2) (s := s)
  have a3 := lm0 (k := k + 1) (c0 := c0) (ls := ls) (z := z)
  have a4 := ka0 (k := k + 1) (c0 := c0) (ls := ls) (z := z)
  have g1 : (st1 c0 ls z)[1]? = some (.ins 1 [(4, shD ls), (0, szD z), (1, .ref 2), (3, .ref 5), (5, .int 0), (2, .ref 6), (6, .ref 7), (8, .ref 8), (18, .int 0), (13, .bl false), (7, .ref 9)]) := rfl
  have g19 : (st1 c0 ls z)[19]? = some (mvC z) := rfl
  have g7 : biM .sorted false [.ref 7] (st1 c0 ls z) = some (.lst [], st1 c0 ls z) := sorted_dic0 rfl
  rw [mvC] at g19
  refine seq_cut (fun ρ s' => ρ = [some (.ref 1), some (.tup []), some (.bl true), some (.ref 19), some (.lst []), none, none, none, none] ∧ s' = st1 c0 ls z) ?_ ?_
  · simp -implicitDefEqProofs [a1]
  rintro _ _ ⟨rfl, rfl⟩
  refine seq_cut (fun ρ s' => ρ = [some (.ref 1), some (.tup []), some (.bl true), some (.ref 19), some (.lst []), some (.lst []), none, none, none] ∧ s' = st1 c0 ls z) ?_ ?_
  · simp -implicitDefEqProofs [g1, valF, g7]
  rintro _ _ ⟨rfl, rfl⟩
  refine seq_cut (fun ρ s' => ρ = [some (.ref 1), some (.tup []), some (.bl true), some (.ref 19), some (.lst []), some (.lst []), some (.tup []), none, none] ∧ s' = st1 c0 ls z) ?_ ?_
  · simp -implicitDefEqProofs
  rintro _ _ ⟨rfl, rfl⟩
  refine seq_cut (fun ρ s' => ρ = [some (.ref 1), some (.tup []), some (.bl true), some (.ref 19), some (.lst []), some (.lst []), some (.tup []), none, none] ∧ s' = st1 c0 ls z) ?_ ?_
  · simp -implicitDefEqProofs [a2]
  rintro _ _ ⟨rfl, rfl⟩
  refine seq_cut (fun ρ s' => ρ = [some (.ref 1), some (.tup []), some (.bl true), some (.ref 19), some (.lst []), some (.lst []), some (.tup []), none, none] ∧ s' = st1 c0 ls z) ?_ ?_
  · simp -implicitDefEqProofs [a3]
  rintro _ _ ⟨rfl, rfl⟩
  refine seq_cut (fun ρ s' => ρ = [some (.ref 1), some (.tup []), some (.bl true), some (.ref 19), some (.lst []), some (.lst []), some (.tup []), none, none] ∧ s' = st1 c0 ls z) ?_ ?_
  · simp -implicitDefEqProofs [x_for]
  rintro _ _ ⟨rfl, rfl⟩
  refine seq_cut (fun ρ s' => ρ = [some (.ref 1), some (.tup []), some (.bl true), some (.ref 19), some (.lst []), some (.lst []), some (.tup []), none, none] ∧ s' = st1 c0 ls z) ?_ ?_
  · refine wp_ford0 (n := 20) ?_ rfl ?_ ⟨rfl, rfl, rfl⟩
    · simp -implicitDefEqProofs [g19, valF]
    · have g : ((st1 c0 ls z).set 20 (.dic true []))[19]? = some (mvC z) := rfl
      rw [mvC] at g
      simp -implicitDefEqProofs [g, valF]
  rintro _ _ ⟨rfl, rfl⟩
  refine seq_cut (fun ρ s' => ρ = [some (.ref 1), some (.tup []), some (.bl true), some (.ref 19), some (.lst []), some (.lst []), some (.tup []), none, none] ∧ s' = c0 :: hp1 ls z 21 0 7 8 false 3 ++ heap0 10 ls z ++ [mvC z, .dic false [], .lst []]) ?_ ?_
  · simp -implicitDefEqProofs [st1, st0, heap0, hpC, rr, valF, putF, hp1]
  rintro _ _ ⟨rfl, rfl⟩
  refine seq_cut (fun ρ s' => ρ = [some (.ref 1), some (.tup []), some (.bl true), some (.ref 19), some (.lst []), some (.lst []), some (.tup []), none, none] ∧ s' = c0 :: hp1 ls z 21 0 7 8 false 22 ++ heap0 10 ls z ++ [mvC z, .dic false [], .lst [], .lst []]) ?_ ?_
  · have ix : ixN 2 0 = some 0 := rfl
    simp -implicitDefEqProofs [heap0, hpC, rr, valF, putF, hp1, ix]
  rintro _ _ ⟨rfl, rfl⟩
  refine seq_cut (fun ρ s' => ρ = [some (.ref 1), some (.tup []), some (.bl true), some (.ref 19), some (.lst []), some (.lst []), some (.tup []), none, none] ∧ s' = st2 c0 ls z) ?_ ?_
  · simp -implicitDefEqProofs [heap0, hpC, rr, valF, putF, hp1, st2]
  rintro _ _ ⟨rfl, rfl⟩
  simp -implicitDefEqProofs [a4]
  exact FinQ_hold (i := 1) (by simp [st0, heap0]) rfl (by simp [st0, heap0, hpC, rr]) (und_ins (f := 6) (k := 23) (by simp) (by simp [st0, heap0])) ⟨rfl, rfl⟩
theorem bw0 : callAt P (k + 5) 44 [.ref 1, .tup []] (st0 c0 ls z) = some (.tup [], st4 c0 ls z) := by
  refine call_eq (fn := f_begin_whole) rfl rfl ?_
  have a1 := mb0 (k := k) (c0 := c0) (ls := ls) (z := z)
  have a2 := fun s => sa0 (k := k + 3) (s := s)
  simp -implicitDefEqProofs [b_begin_whole, a1, st3, hp1, heap0, hpC, rr, valF, putF, a2]
  exact FinQ_hold (i := 1) (by simp [st0, heap0]) rfl (by simp [st0, heap0, hpC, rr]) (und_ins (f := 6) (k := 23) (by simp) (by simp [st0, heap0])) ⟨rfl, rfl⟩
theorem at_st0 : HpAt (st0 c0 ls z) (rr 1) ls z 0 false [] [] [] := ⟨rfl, rfl, rfl, rfl, rfl, rfl, rfl, rfl, rfl⟩
theorem at_st0' : HpAt (st0 c0 ls z) (rr 10) ls z 0 false [] [] [] := ⟨rfl, rfl, rfl, rfl, rfl, rfl, rfl, rfl, rfl⟩
theorem at_st4 : HpAt (st4 c0 ls z) rb ls z 1 true [] [] [] := ⟨rfl, rfl, rfl, rfl, rfl, rfl, rfl, rfl, rfl⟩
theorem at_st4' : HpAt (st4 c0 ls z) (rr 10) ls z 0 false [] [] [] := ⟨rfl, rfl, rfl, rfl, rfl, rfl, rfl, rfl, rfl⟩
theorem begin0 : callAt P (k + 6) 65 [.ref 1, .tup []] (st0 c0 ls z) = some (.tup [], st4 c0 ls z) := by
  refine call_eq (fn := f_Heap_begin) rfl rfl ?_
  have a1 : callAt P (k + 5) 34 [.ref 1, .tup []] (st0 c0 ls z) = some (.non, st0 c0 ls z) := need_roots (k := k + 3) (rs := []) (at_st0 (c0 := c0) (ls := ls) (z := z)) (by simp) (fun _ h => nomatch h)
  have a2 := bw0 (k := k) (c0 := c0) (ls := ls) (z := z)
  have g1 : (st0 c0 ls z)[1]? = some (.ins 1 [(4, shD ls), (0, szD z), (1, .ref 2), (3, .ref 5), (5, .int 0), (2, .ref 6), (6, .ref 7), (8, .ref 8), (18, .int 0), (13, .bl false), (7, .ref 9)]) := rfl
  simp -implicitDefEqProofs [b_Heap_begin, a1, a2, g1, valF]
  exact FinQ_hold (i := 1) (by simp [st0, heap0]) rfl (by simp [st0, heap0, hpC, rr]) (und_ins (f := 6) (k := 23) (by simp) (by simp [st0, heap0])) ⟨rfl, rfl⟩
end
end K
end

section
set_option linter.all false
set_option maxRecDepth 10000
namespace K
open VI
section
variable {k : Nat} {s : St} {r : HR} {ls : List (List Bool)} {z : Sz} {half : Int} {mk : Bool} {yw ow st : List Int} {c0 : Cell}
def places (r : HR) : List Nat := [r.h, r.nur, r.hv, r.ha, r.hb, r.old, r.kept, r.grey, r.st]
theorem HpAt.set {i : Nat} {c : Cell} (H : HpAt s r ls z half mk yw ow st) (h : i ∉ places r) : HpAt (s.set i c) r ls z half mk yw ow st := by
  simp [places] at h
  obtain ⟨h1, h2, h3, h4, h5, h6, h7, h8, h9⟩ := h
  constructor
  · rw [set_ne h1]; exact H.h
  · rw [set_ne h2]; exact H.nur
  · rw [set_ne h3]; exact H.hv
  · rw [set_ne h4]; exact H.ha
  · rw [set_ne h5]; exact H.hb
  · rw [set_ne h6]; exact H.old
  · rw [set_ne h7]; exact H.kept
  · rw [set_ne h8]; exact H.grey
  · rw [set_ne h9]; exact H.st
def Low (r : HR) (n : Nat) : Prop := ∀ p ∈ places r, p < n
theorem Low.off {n i : Nat} (h : Low r n) (hi : n ≤ i) : i ∉ places r := fun m => Nat.lt_irrefl _ (Nat.lt_of_lt_of_le (h i m) hi)
theorem take_get {n i : Nat} (h : i < n) : (s.take n)[i]? = s[i]? := by rw [List.getElem?_take]; simp [h]
theorem HpAt.take {n : Nat} (H : HpAt s r ls z half mk yw ow st) (h : Low r n) : HpAt (s.take n) r ls z half mk yw ow st := by
  simp [Low, places] at h
  obtain ⟨h1, h2, h3, h4, h5, h6, h7, h8, h9⟩ := h
  constructor
  · rw [take_get h1]; exact H.h
  · rw [take_get h2]; exact H.nur
  · rw [take_get h3]; exact H.hv
  · rw [take_get h4]; exact H.ha
  · rw [take_get h5]; exact H.hb
  · rw [take_get h6]; exact H.old
  · rw [take_get h7]; exact H.kept
  · rw [take_get h8]; exact H.grey
  · rw [take_get h9]; exact H.st
/-! ### what was made -/
structure Ent where
  a : Int
  kd : Int
  m : Int
  old : Bool
def Ent.w (e : Ent) : D := if e.old = true then wOld else wYoung
def entD (e : Ent) : D := .tup [.int e.a, dueD e.kd e.m e.w]
structure EntOk (z : Sz) (yw ow : List Int) (e : Ent) : Prop where
  at' : ∃ (p : Nat) (col : Int), 0 ≤ col ∧ col < 4 ∧ (if e.old = true then e.a = ob z + p ∧ ow[p]? = some ((e.kd + 3) * 64 + col) ∧ ow[p + 1]? = some e.m
    else e.a = 1 + p ∧ yw[p]? = some ((e.kd + 3) * 64 + col) ∧ yw[p + 1]? = some e.m)
theorem get_app {α : Type} {l l' : List α} {i : Nat} {x : α} (h : l[i]? = some x) : (l ++ l')[i]? = some x := by
  rw [List.getElem?_append_left (List.getElem?_eq_some_iff.mp h).1]; exact h
theorem EntOk.mono {e : Ent} {y o : List Int} (h : EntOk z yw ow e) : EntOk z (yw ++ y) (ow ++ o) e := by
  obtain ⟨p, col, h1, h2, h3⟩ := h.at'
  refine ⟨p, col, h1, h2, ?_⟩
  split at h3
  · rename_i c
    rw [if_pos c]
    exact ⟨h3.1, get_app h3.2.1, get_app h3.2.2⟩
  · rename_i c
    rw [if_neg c]
    exact ⟨h3.1, get_app h3.2.1, get_app h3.2.2⟩
theorem EntOk.known {e : Ent} (h : EntOk z yw ow e) (H : HpAt s r ls z half mk yw ow st) (hs : e.a ∈ st) (hy : (yw.length : Int) ≤ z.a) (hb : 0 ≤ z.b) : Known s r e.a e.kd e.m e.w := by
  obtain ⟨p, col, h1, h2, h3⟩ := h.at'
  have kk : ((e.kd + 3) * 64 + col) / 64 - 3 = e.kd := by omega
  split at h3
  · rename_i c
    obtain ⟨ea, w1, w2⟩ := h3
    have W1 : WordAt s r e.a ((e.kd + 3) * 64 + col) := fun k => by rw [ea]; exact word_old H hb w1
    have W2 : WordAt s r (e.a + 1) e.m := fun k => by
      have : e.a + 1 = ob z + ((p + 1 : Nat) : Int) := by omega
      rw [this]; exact word_old H hb w2
    refine ⟨fun k => ?_, fun k => heap_slots H hs W2, fun k => ?_, ?_⟩
    · rw [heap_kind H hs W1, kk]
    · unfold Ent.w; rw [if_pos c]; exact where_old H hs (by omega)
    · unfold Ent.w; rw [if_pos c]; exact .inl rfl
  · rename_i c
    obtain ⟨ea, w1, w2⟩ := h3
    have l2 := (List.getElem?_eq_some_iff.mp w2).1
    have W1 : WordAt s r e.a ((e.kd + 3) * 64 + col) := fun k => by rw [ea]; exact word_young H (by omega) w1
    have W2 : WordAt s r (e.a + 1) e.m := fun k => by
      have : e.a + 1 = 1 + ((p + 1 : Nat) : Int) := by omega
      rw [this]; exact word_young H (by omega) w2
    refine ⟨fun k => ?_, fun k => heap_slots H hs W2, fun k => ?_, ?_⟩
    · rw [heap_kind H hs W1, kk]
    · unfold Ent.w; rw [if_neg c]; exact where_young H hs hb (by omega)
    · unfold Ent.w; rw [if_neg c]; exact .inr rfl
/-- a place that is new -/
theorem EntOk.under {e : Ent} (h : EntOk z yw ow e) : (if e.old = true then ob z ≤ e.a ∧ e.a < ob z + ow.length else 1 ≤ e.a ∧ e.a < 1 + (yw.length : Int)) := by
  obtain ⟨p, col, h1, h2, h3⟩ := h.at'
  split at h3
  · rename_i c
    have l2 := (List.getElem?_eq_some_iff.mp h3.2.1).1
    rw [if_pos c]; omega
  · rename_i c
    have l2 := (List.getElem?_eq_some_iff.mp h3.2.1).1
    rw [if_neg c]; omega
end
end K
end

section
set_option linter.all false
set_option maxRecDepth 10000
namespace K
open VI
section
variable {k : Nat} {s : St} {r r2 : HR} {F : Nat} {ls : List (List Bool)} {z : Sz} {half : Int} {mk : Bool} {yw ow st : List Int} {c0 : Cell} {os us : List (Int × Int × Int)} {fs : List Ent}
structure MkI (s : St) (r r2 : HR) (F : Nat) (ls : List (List Bool)) (z : Sz) (half : Int) (mk : Bool) (os us : List (Int × Int × Int)) (fs : List Ent) : Prop where
  hp : HpAt s r ls z half mk (wordsOf os) (wordsOf us) (fs.map (·.a))
  hp2 : HpAt s r2 ls z 0 false [] [] []
  fnd : s[F]? = some (.lst (fs.map entD))
  ok : ∀ e ∈ fs, EntOk z (wordsOf os) (wordsOf us) e
  yl : ((wordsOf os).length : Int) ≤ z.a
  tot : (wordsOf os).length + (wordsOf us).length ≤ 3002
  ao : allM os
  cnt : (fs.filter fun e => !e.old).length = os.length
  cu : fs.length = os.length + us.length
/-- how the places lie -/
structure Lay (r r2 : HR) (F : Nat) : Prop where
  ok : HRok r
  l1 : Low r F
  l2 : Low r2 F
  n2 : r.nur ∉ places r2
  o2 : r.old ∉ places r2
  s2 : r.st ∉ places r2
theorem Lay.F1 (L : Lay r r2 F) : F ∉ places r := L.l1.off (Nat.le_refl _)
theorem Lay.F2 (L : Lay r r2 F) : F ∉ places r2 := L.l2.off (Nat.le_refl _)
theorem MkI.set {f : Nat} {c : Cell} (M : MkI s r r2 F ls z half mk os us fs) (L : Lay r r2 F) (h : F < f) : MkI (s.set f c) r r2 F ls z half mk os us fs :=
  ⟨M.hp.set (L.l1.off (Nat.le_of_lt h)), M.hp2.set (L.l2.off (Nat.le_of_lt h)), by rw [set_ne (Nat.ne_of_gt h)]; exact M.fnd, M.ok, M.yl, M.tot, M.ao, M.cnt, M.cu⟩
theorem MkI.app {t : St} (M : MkI s r r2 F ls z half mk os us fs) : MkI (s ++ t) r r2 F ls z half mk os us fs :=
  ⟨M.hp.app, M.hp2.app, by rw [app_get (lt_of M.fnd)]; exact M.fnd, M.ok, M.yl, M.tot, M.ao, M.cnt, M.cu⟩
theorem entD_pure {e : Ent} : (entD e).pure = true := by
  cases h : e.old <;> simp [entD, dueD, Ent.w, h, D.pure, pureAll, wOld, wYoung]
theorem entD_depth {e : Ent} : (entD e).depth = 2 := by
  cases h : e.old <;> simp [entD, dueD, Ent.w, h, D.depth, depthAll, wOld, wYoung]
theorem ents_depth : depthAll (fs.map entD) ≤ 2 := by
  induction fs with
  | nil => simp [depthAll]
  | cons e t ih => simp only [List.map_cons, depthAll, entD_depth]; omega
theorem ne_nil (h : s[F]? = some (.lst (fs.map entD))) : copM .ne (.ref F) (.lst []) s = some (!fs.isEmpty, s) := by
  have hp : pureAll (fs.map entD) = true := by rw [pureAll_map]; simp [entD_pure]
  have hd := @ents_depth fs
  simp only [copM, eqM, eqOk, whd, h, D.pure, hp, pureAll, D.depth, depthAll]
  have : decide (depthAll (fs.map entD) + 1 ≤ 60) = true := by simp; omega
  rw [this]
  cases fs <;> simp [eqv, eqvAll]
theorem l_head {kd col m : Int} (h0 : 0 ≤ m) (h1 : m ≤ 1000) : callAt P (k + 1) 53 [.int kd, .int col, .int m] s = some (.lst ((objW kd col m).map .int), s) := by
  refine call_eq (fn := f_l_head) rfl rfl ?_
  have e1 : bopI .mul (kd + 3) 64 = some ((kd + 3) * 64) := bopI_mul (.inr (by omega))
  have c1 : -(9223372036854775808 : Int) ≤ m := by omega
  have c1b : m < 9223372036854775808 := by omega
  have c1c : m ≤ 16777216 := by omega
  have c2 : m.toNat + 2 ≤ 16777216 := by omega
  have c3 : 2 + m.toNat ≤ 16777216 := by omega
  simp -implicitDefEqProofs [b_l_head, e1, c1, c1b, c1c, LINE, c2, c3]
  simp [objW, zs]
theorem atI_last {α : Type} {l : List α} {x : α} (h : l.length < 2 ^ 62) : atI (l ++ [x]) (-1) = some x := by
  unfold atI ixN
  have h1 : ¬ (0 : Int) ≤ -1 := by omega
  have h2 : -(((l ++ [x]).length : Nat) : Int) ≤ -1 := by simp; omega
  have h3 : (-1 + (((l ++ [x]).length : Nat) : Int)).toNat = l.length := by simp; omega
  rw [if_neg h1, if_pos h2]
  simp only [Option.bind]
  rw [h3]
  simp
end
end K
end

section
set_option linter.all false
set_option maxRecDepth 10000
namespace K
open VI
section
variable {k : Nat} {s : St} {r r2 : HR} {F f n : Nat} {x : Fd} {ls : List (List Bool)} {z : Sz} {half : Int} {mk : Bool} {yw ow st : List Int} {c0 : Cell} {os us : List (Int × Int × Int)} {fs : List Ent}
def eRoot : E := .ite (.cmp .ne (.slot 7) (.lst false [])) (.idx (.call 47 [.slot 10, .slot 7] []) (.cst (.int 0))) (.cst (.int 0))
theorem lt60 : (2 : Nat) ^ 40 < 2 ^ 60 := by decide
theorem roots {o0 o1 o2 o3 o4 o5 o6 o8 o9 o11 o12 o13 o14 o15 o16 o17 o18 : Option D} (hF : s[F]? = some (.lst (fs.map entD))) (hf : s[f]? = some (fdC x)) (hx : FdOk n x) (hn : n < 2 ^ 50) (hl : fs.length < 100000) (c : F < f) {m : Nat} (hm : m ≤ 10) {Q : List D → St → Prop}
    (h : ∀ (rs : List Int) (x' : Fd), rs.length = m → (∀ a ∈ rs, a = 0 ∨ a ∈ fs.map (·.a)) → FdOk (n + m) x' → Q (rs.map .int) (s.set f (fdC x'))) :
    wp (mapG [] (compF P (callAt P (k + 2)) eRoot [16] false [] [o0, o1, o2, o3, o4, o5, o6, some (.ref F), o8, o9, some (.ref f), o11, o12, o13, o14, o15, o16, o17, o18]) (rangeD 0 m) []) Q s := by
  have hl' := lt_of hf
  have hset : ∀ c, (s.set f c)[f]? = some c := fun c => set_get hl'
  have hne : f ≠ F := Nat.ne_of_gt c
  refine wp_mapG (fun i a s' => ∃ (rs : List Int) (x' : Fd), rs.length = i ∧ a = rs.map .int ∧ (∀ a ∈ rs, a = 0 ∨ a ∈ fs.map (·.a)) ∧ FdOk (n + i) x' ∧ s' = s.set f (fdC x')) (fun _ _ _ _ _ => GOk_nil) ?_ ?_ ⟨[], x, rfl, rfl, fun _ h => (nomatch h), hx, (set_self hf).symm⟩
  · rintro i a s' hi ⟨rs, x', b1, rfl, b2, b3, rfl⟩
    rw [rangeD_len] at hi
    have hF' : (s.set f (fdC x'))[F]? = some (.lst (fs.map entD)) := by rw [set_ne hne]; exact hF
    have e0 := ne_nil hF'
    by_cases c0 : fs = []
    · subst c0
      simp -implicitDefEqProofs [eRoot, e0]
      refine ⟨by unfold LINE; omega, rs ++ [0], by simp [b1], by simp, ?_, x', b3.mono (by omega), rfl⟩
      intro a ha
      rcases List.mem_append.mp ha with h | h
      · simpa using b2 a h
      · simp [List.mem_singleton.mp h]
    · have c1 : 0 < fs.length := List.length_pos_iff.mpr c0
      obtain ⟨d, hd, e1⟩ := one_r (k := k) (l := fs.map entD) (hset (fdC x')) b3 hF' hne ⟨by have := lt60; omega, by simp; omega, by simp; omega⟩
      rw [List.set_set] at e1
      obtain ⟨e, he, rfl⟩ := List.mem_map.mp hd
      have kk := drF_ok (m := ((fs.map entD).length : Int)) b3 (by simp; omega)
      generalize drF x' ((fs.map entD).length : Int) = x3 at e1 kk
      have a0 : atI [D.int e.a, dueD e.kd e.m e.w] 0 = some (.int e.a) := rfl
      have c2 : fs.isEmpty = false := by simp [c0]
      simp -implicitDefEqProofs [eRoot, e0, c2, e1, entD, a0]
      refine ⟨by unfold LINE; omega, rs ++ [e.a], by simp [b1], by simp, ?_, x3, kk, rfl⟩
      intro a ha
      rcases List.mem_append.mp ha with h | h
      · simpa using b2 a h
      · rw [List.mem_singleton.mp h]; exact .inr ⟨e, he, rfl⟩
  · rintro a s' ⟨rs, x', b1, rfl, b2, b3, rfl⟩
    rw [rangeD_len] at b1 b3
    exact h rs x' b1 b2 b3
theorem cat1 {rs : List Int} (h : rs.length ≤ 10) : catM false (some (rs.map D.int)) (some [.int 0]) s = some (.lst ((rs ++ [0]).map .int), s) := by
  have : rs.length + 1 ≤ LINE := by unfold LINE; omega
  simp [this]
end
end K
end

section
set_option linter.all false
set_option maxRecDepth 10000
namespace K
open VI
def bTurn : List S := [.asg (.slot 12) (.bop .sub false (.call 46 [.slot 10, .bop .add false (.bi .len false [.slot 2]) (.cst (.int 3))] []) (.cst (.int 3))),
    .asg (.slot 13) (.ite (.cmp .lt (.slot 12) (.cst (.int 0))) (.call 52 [.slot 10, .slot 3] []) (.bi .len false [.idx (.slot 2) (.slot 12)])),
    .asg (.slot 14) (.cmp .gt (.bop .add false (.cst (.int 2)) (.slot 13)) (.idx (.slot 3) (.cst (.int 2)))),
    .ife (.and [.cmp .lt (.bop .add false (.bop .add false (.bi .len false [.slot 5]) (.bi .len false [.slot 6])) (.slot 13)) (.cst (.int 3000)), .or [.slot 14, .cmp .le (.bop .add false (.bop .add false (.bi .len false [.slot 5]) (.cst (.int 2))) (.slot 13)) (.idx (.slot 3) (.cst (.int 0)))]]) [.asg (.slot 15) (.bi .tuple false [.bop .add false (.comp false (.ite (.cmp .ne (.slot 7) (.lst false [])) (.idx (.call 47 [.slot 10, .slot 7] []) (.cst (.int 0))) (.cst (.int 0))) [16] false .range [.call 46 [.slot 10, .cst (.int 6)] []] []) (.lst false [.cst (.int 0)])]),
    .asg (.slot 17) (.ite (.slot 14) (.tup [.bop .add false (.slot 8) (.bi .len false [.slot 6]), .slot 15]) (.tup [.bop .add false (.cst (.int 1)) (.bi .len false [.slot 5]), .slot 15])),
    .ife (.not (.call 48 [.meth (.slot 1) 22 [.slot 12, .slot 13, .slot 15] [], .slot 17] [])) [.ret (.cst (.non))] [],
    .ife (.slot 14) [.asg (.slot 6) (.bop .add false (.slot 6) (.call 53 [.slot 12, .ite (.slot 4) (.cst (.int 2)) (.cst (.int 0)), .slot 13] []))] [.asg (.slot 5) (.bop .add false (.slot 5) (.call 53 [.slot 12, .cst (.int 0), .slot 13] []))],
    .expr (.bm .append (.slot 7) [.tup [.idx (.slot 17) (.cst (.int 0)), .tup [.slot 12, .slot 13, .ite (.slot 14) (.cst (.str [111, 108, 100])) (.cst (.str [110, 117, 114, 115, 101, 114, 121]))]]]),
    .ife (.not (.call 54 [.slot 1, .idx (.slot 17) (.cst (.int 0)), .idx (.idx (.slot 7) (.neg (.cst (.int 1)))) (.cst (.int 1))] [])) [.ret (.cst (.non))] []] []]
section
variable {k : Nat} {s : St} {r r2 : HR} {F f n : Nat} {x : Fd} {ns : List Int} {ls : List (List Bool)} {z : Sz} {half : Int} {mk : Bool} {yw ow st : List Int} {c0 : Cell} {os us : List (Int × Int × Int)} {fs : List Ent}
/-- the slots while makes runs -/
def mkE (ns : List Int) (r : HR) (ls : List (List Bool)) (z : Sz) (mk : Bool) (yw ow : List Int) (F : Nat) (o9 o10 o11 o12 o13 o14 o15 o16 o17 o18 : Option D) : Env :=
  [some (.fro (ns.map .int)), some (.ref r.h), some (shD ls), some (szD z), some (.bl mk), some (.lst (yw.map .int)), some (.lst (ow.map .int)), some (.ref F), some (.int (ob z)), o9, o10, o11, o12, o13, o14, o15, o16, o17, o18]
/-- behind a turn -/
def TuQ (ns : List Int) (r r2 : HR) (F f n : Nat) (ls : List (List Bool)) (z : Sz) (half : Int) (mk : Bool) (o9 o11 : Option D) (ρ : Env) (s' : St) : Prop :=
  ∃ os us fs x' o12 o13 o14 o15 o16 o17 o18, ρ = mkE ns r ls z mk (wordsOf os) (wordsOf us) F o9 (some (.ref f)) o11 o12 o13 o14 o15 o16 o17 o18 ∧ MkI s' r r2 F ls z half mk os us fs ∧ FdOk n x' ∧ s'[f]? = some (fdC x')
theorem MkI.made_old {kd m : Int} (M : MkI s r r2 F ls z half mk os us fs) (L : Lay r r2 F) (m0 : 0 ≤ m) (ht : ((wordsOf os).length : Int) + (wordsOf us).length + m < 3000) :
    MkI ((stOld s r (wordsOf us) (fs.map (·.a)) kd (if mk = true then 2 else 0) m (ob z + (wordsOf us).length)).set F (.lst ((fs ++ [Ent.mk (ob z + (wordsOf us).length) kd m true]).map entD))) r r2 F ls z half mk os (us ++ [(kd, if mk = true then 2 else 0, m)]) (fs ++ [Ent.mk (ob z + (wordsOf us).length) kd m true]) := by
  have e : wordsOf (us ++ [(kd, if mk = true then 2 else 0, m)]) = wordsOf us ++ objW kd (if mk = true then 2 else 0) m := by rw [wordsOf_app]; simp [wordsOf]
  have hlen := objW_len (kd := kd) (col := if mk = true then 2 else 0) m0
  have lF := lt_of M.fnd
  constructor
  · rw [e]
    have := (M.hp.old_made L.ok (kd := kd) (col := if mk = true then 2 else 0) (m := m) (a := ob z + (wordsOf us).length)).set L.F1 (c := .lst ((fs ++ [Ent.mk (ob z + (wordsOf us).length) kd m true]).map entD))
    simpa using this
  · have := ((M.hp2.set L.o2 (c := wsC (wordsOf us ++ objW kd (if mk = true then 2 else 0) m))).set L.s2 (c := stC (fs.map (·.a) ++ [ob z + (wordsOf us).length]))).set L.F2 (c := .lst ((fs ++ [Ent.mk (ob z + (wordsOf us).length) kd m true]).map entD))
    exact this
  · exact set_get (s := stOld s r (wordsOf us) (fs.map (·.a)) kd (if mk = true then 2 else 0) m (ob z + (wordsOf us).length)) (by unfold stOld; rw [set_len, set_len]; exact lF)
  · intro q hq
    rcases List.mem_append.mp hq with h | h
    · have := (M.ok q h).mono (y := []) (o := objW kd (if mk = true then 2 else 0) m)
      rw [e]; simpa using this
    · rw [List.mem_singleton.mp h, e]
      refine ⟨(wordsOf us).length, if mk = true then 2 else 0, by split <;> omega, by split <;> omega, ?_⟩
      simp [objW]
  · exact M.yl
  · rw [e, List.length_append]; omega
  · exact M.ao
  · rw [List.filter_append, List.length_append, M.cnt]; simp
  · simp [M.cu]; omega
theorem MkI.made_young {kd m : Int} (M : MkI s r r2 F ls z half mk os us fs) (L : Lay r r2 F) (m0 : 0 ≤ m) (ht : ((wordsOf os).length : Int) + (wordsOf us).length + m < 3000) (hy : ((wordsOf os).length : Int) + 2 + m ≤ z.a) :
    MkI ((stYoung s r (wordsOf os) (fs.map (·.a)) kd m (1 + (wordsOf os).length)).set F (.lst ((fs ++ [Ent.mk (1 + (wordsOf os).length) kd m false]).map entD))) r r2 F ls z half mk (os ++ [(kd, 0, m)]) us (fs ++ [Ent.mk (1 + (wordsOf os).length) kd m false]) := by
  have e : wordsOf (os ++ [(kd, 0, m)]) = wordsOf os ++ objW kd 0 m := by rw [wordsOf_app]; simp [wordsOf]
  have hlen := objW_len (kd := kd) (col := 0) m0
  have lF := lt_of M.fnd
  constructor
  · rw [e]
    have := (M.hp.young_made L.ok (kd := kd) (m := m) (a := 1 + (wordsOf os).length)).set L.F1 (c := .lst ((fs ++ [Ent.mk (1 + (wordsOf os).length) kd m false]).map entD))
    simpa using this
  · have := ((M.hp2.set L.n2 (c := wsC (wordsOf os ++ objW kd 0 m))).set L.s2 (c := stC (fs.map (·.a) ++ [1 + ((wordsOf os).length : Int)]))).set L.F2 (c := .lst ((fs ++ [Ent.mk (1 + (wordsOf os).length) kd m false]).map entD))
    exact this
  · exact set_get (s := stYoung s r (wordsOf os) (fs.map (·.a)) kd m (1 + (wordsOf os).length)) (by unfold stYoung; rw [set_len, set_len]; exact lF)
  · intro q hq
    rcases List.mem_append.mp hq with h | h
    · have := (M.ok q h).mono (y := objW kd 0 m) (o := [])
      rw [e]; simpa using this
    · rw [List.mem_singleton.mp h, e]
      refine ⟨(wordsOf os).length, 0, by omega, by omega, ?_⟩
      simp [objW]
  · rw [e, List.length_append]; omega
  · rw [e, List.length_append]; omega
  · intro q hq
    rcases List.mem_append.mp hq with h | h
    · exact M.ao q h
    · rw [List.mem_singleton.mp h]; exact m0
  · rw [List.filter_append, List.length_append, M.cnt]; simp
  · simp [M.cu]; omega
theorem new_old (M : MkI s r r2 F ls z half mk os us fs) (hb : 0 ≤ z.b) (ha : 0 ≤ z.a) : ob z + ((wordsOf us).length : Int) ∉ fs.map (·.a) := by
  intro h
  obtain ⟨e, he, h2⟩ := List.mem_map.mp h
  have hu := (M.ok e he).under
  have := M.yl
  unfold ob at *
  split at hu <;> omega
theorem new_young (M : MkI s r r2 F ls z half mk os us fs) (hb : 0 ≤ z.b) (ha : 0 ≤ z.a) {m : Int} (m0 : 0 ≤ m) (hy : ((wordsOf os).length : Int) + 2 + m ≤ z.a) : 1 + ((wordsOf os).length : Int) ∉ fs.map (·.a) := by
  intro h
  obtain ⟨e, he, h2⟩ := List.mem_map.mp h
  have hu := (M.ok e he).under
  unfold ob at *
  split at hu <;> omega
theorem MkI.few (M : MkI s r r2 F ls z half mk os us fs) : fs.length ≤ 3002 := by
  have := M.cu; have := M.tot; have := @len_words os; have := @len_words us
  omega
end
end K
end

section
set_option linter.all false
set_option maxRecDepth 10000
namespace K
open VI
section
variable {k : Nat} {s : St} {r r2 : HR} {F f n : Nat} {x : Fd} {ns : List Int} {ls : List (List Bool)} {z : Sz} {half : Int} {mk : Bool} {yw ow st : List Int} {c0 : Cell} {os us : List (Int × Int × Int)} {fs : List Ent}
theorem at_z0 : atI [D.int z.a, .int z.b, .int z.c, .int z.d] 0 = some (.int z.a) := rfl
theorem at_z2 : atI [D.int z.a, .int z.b, .int z.c, .int z.d] 2 = some (.int z.c) := rfl
theorem h_make {cl : Nat → List D → M D} {vs : M (List D)} {Q : D → St → Prop} (M : MkI s r r2 F ls z half mk os us fs) : wp (methC P cl 22 (.ref r.h) vs) Q s = wp (bnd vs fun vs => cl 59 (.ref r.h :: vs)) Q s := by
  have hm := M.hp.h
  rw [hpC] at hm
  exact w_meth hm rfl rfl
def bTail : List S := [.asg (.slot 17) (.ite (.slot 14) (.tup [.bop .add false (.slot 8) (.bi .len false [.slot 6]), .slot 15]) (.tup [.bop .add false (.cst (.int 1)) (.bi .len false [.slot 5]), .slot 15])),
    .ife (.not (.call 48 [.meth (.slot 1) 22 [.slot 12, .slot 13, .slot 15] [], .slot 17] [])) [.ret (.cst (.non))] [],
    .ife (.slot 14) [.asg (.slot 6) (.bop .add false (.slot 6) (.call 53 [.slot 12, .ite (.slot 4) (.cst (.int 2)) (.cst (.int 0)), .slot 13] []))] [.asg (.slot 5) (.bop .add false (.slot 5) (.call 53 [.slot 12, .cst (.int 0), .slot 13] []))],
    .expr (.bm .append (.slot 7) [.tup [.idx (.slot 17) (.cst (.int 0)), .tup [.slot 12, .slot 13, .ite (.slot 14) (.cst (.str [111, 108, 100])) (.cst (.str [110, 117, 114, 115, 101, 114, 121]))]]]),
    .ife (.not (.call 54 [.slot 1, .idx (.slot 17) (.cst (.int 0)), .idx (.idx (.slot 7) (.neg (.cst (.int 1)))) (.cst (.int 1))] [])) [.ret (.cst (.non))] []]
theorem sm_due {A : Int} {rs : List Int} (h : rs.length ≤ 11) : sm 2 (.tup [.int A, rootsD rs]) = true := by
  have h1 : smAll 0 (rs.map D.int) = true := by
    clear h
    induction rs with
    | nil => rfl
    | cons a t ih => simp [smAll, sm, ih]
  have h2 : decide ((rs.map D.int).length < 2 ^ 62) = true := by simp; omega
  simp only [sm, smAll, rootsD, h1, h2]
  rfl
theorem tail_old {kd m : Int} {rs : List Int} {o9 o11 o16 o17 o18 : Option D} (hl : ShOk ls) (hz : SzOk z) (L : Lay r r2 F) (c : F < f) (M : MkI s r r2 F ls z half mk os us fs) (hx : FdOk n x) (hf : s[f]? = some (fdC x))
    (k0 : -3 ≤ kd) (k1 : kd < ls.length) (hm : ManyOk ls kd m) (m0 : 0 ≤ m) (m1 : m ≤ 1000) (hr : rs.length ≤ 11) (hr2 : ∀ a ∈ rs, a = 0 ∨ a ∈ fs.map (·.a)) (big : z.c < 2 + m) (ht : ((wordsOf os).length : Int) + (wordsOf us).length + m < 3000) :
    wp (execSs P (callAt P (k + 7)) bTail (mkE ns r ls z mk (wordsOf os) (wordsOf us) F o9 (some (.ref f)) o11 (some (.int kd)) (some (.int m)) (some (.bl true)) (some (rootsD rs)) o16 o17 o18)) (fun w s' => w.1 = .next ∧ TuQ ns r r2 F f n ls z half mk o9 o11 w.2 s') s := by
  unfold bTail
  have hfew := M.few
  have hnew := new_old M hz.b1 (by have := hz.a1; omega)
  have e4 := make_old (k := k + 3) M.hp L.ok k0 k1 hm m0 m1 (by omega) hr2 (by have := M.tot; omega) (by simp; omega) hnew big
  have M6 := M.made_old (kd := kd) (m := m) L m0 ht
  have hU0 : (wordsOf us).length ≤ 3002 := by have := M.tot; omega
  have hw : us = us := rfl
  generalize hA : ob z + ((wordsOf us).length : Int) = A at e4 M6
  have lF := lt_of M.fnd
  have hF := M.fnd
  have c1 : f ≠ r.old := fun h => L.l1.off (Nat.le_of_lt c) (by simp [places, h])
  have c2 : f ≠ r.st := fun h => L.l1.off (Nat.le_of_lt c) (by simp [places, h])
  have c3 : F ≠ r.old := fun h => L.F1 (by simp [places, h])
  have c4 : F ≠ r.st := fun h => L.F1 (by simp [places, h])
  generalize hs5 : stOld s r (wordsOf us) (fs.map (·.a)) kd (if mk = true then 2 else 0) m A = s5 at e4 M6
  have f5 : s5[f]? = some (fdC x) := by rw [← hs5]; unfold stOld; rw [set_ne (Ne.symm c2), set_ne (Ne.symm c1)]; exact hf
  have F5 : s5[F]? = some (.lst (fs.map entD)) := by rw [← hs5]; unfold stOld; rw [set_ne (Ne.symm c4), set_ne (Ne.symm c3)]; exact hF
  clear hs5
  refine seq_cut (fun ρ s' => ρ = mkE ns r ls z mk (wordsOf os) (wordsOf us) F o9 (some (.ref f)) o11 (some (.int kd)) (some (.int m)) (some (.bl true)) (some (rootsD rs)) o16 (some (.tup [.int A, rootsD rs])) o18 ∧ s' = s) ?_ ?_
  · simp -implicitDefEqProofs [mkE, hA, LINE]
  rintro _ s ⟨rfl, rfl⟩
  have e5 := same (n := 2) (k := k + 4) (s := s5) (sm_due (A := A) hr)
  refine seq_cut (fun ρ s' => ρ = mkE ns r ls z mk (wordsOf os) (wordsOf us) F o9 (some (.ref f)) o11 (some (.int kd)) (some (.int m)) (some (.bl true)) (some (rootsD rs)) o16 (some (.tup [.int A, rootsD rs])) o18 ∧ s' = s5) ?_ ?_
  · have hh := fun cl vs Q => h_make (cl := cl) (vs := vs) (Q := Q) M
    simp -implicitDefEqProofs [mkE, ↓hh, e4, e5]
  rintro _ s5 ⟨rfl, rfl⟩
  have lw : wordsOf (us ++ [(kd, if mk = true then 2 else 0, m)]) = wordsOf us ++ objW kd (if mk = true then 2 else 0) m := by rw [wordsOf_app]; simp [wordsOf]
  have hlen := objW_len (kd := kd) (col := if mk = true then 2 else 0) m0
  refine seq_cut (fun ρ s' => ρ = mkE ns r ls z mk (wordsOf os) (wordsOf (us ++ [(kd, if mk = true then 2 else 0, m)])) F o9 (some (.ref f)) o11 (some (.int kd)) (some (.int m)) (some (.bl true)) (some (rootsD rs)) o16 (some (.tup [.int A, rootsD rs])) o18 ∧ s' = s5) ?_ ?_
  · have e6 := l_head (k := k + 6) (s := s5) (kd := kd) (col := if mk = true then 2 else 0) m0 m1
    have hc : ((wordsOf us).map D.int).length + ((objW kd (if mk = true then 2 else 0) m).map D.int).length ≤ LINE := by unfold LINE; simp only [List.length_map]; omega
    cases mk
    · simp at e6 hc lw
      simp -implicitDefEqProofs [mkE, e6, hc, lw]
    · simp at e6 hc lw
      simp -implicitDefEqProofs [mkE, e6, hc, lw]
  rintro _ s5 ⟨rfl, rfl⟩
  refine seq_cut (fun ρ s' => ρ = mkE ns r ls z mk (wordsOf os) (wordsOf (us ++ [(kd, if mk = true then 2 else 0, m)])) F o9 (some (.ref f)) o11 (some (.int kd)) (some (.int m)) (some (.bl true)) (some (rootsD rs)) o16 (some (.tup [.int A, rootsD rs])) o18 ∧ s' = s5.set F (.lst ((fs ++ [Ent.mk A kd m true]).map entD))) ?_ ?_
  · have hc : fs.length < 16777216 := by omega
    have a0 : atI [D.int A, rootsD rs] 0 = some (.int A) := rfl
    generalize wordsOf (us ++ [(kd, if mk = true then 2 else 0, m)]) = w
    simp -implicitDefEqProofs [mkE, F5, a0, hc, LINE]
    simp [entD, dueD, Ent.w, wOld]
  rintro _ s6 ⟨rfl, rfl⟩
  have f6 : (s5.set F (.lst ((fs ++ [Ent.mk A kd m true]).map entD)))[f]? = some (fdC x) := by rw [set_ne (Nat.ne_of_lt c)]; exact f5
  generalize s5.set F (.lst ((fs ++ [Ent.mk A kd m true]).map entD)) = s6 at M6 f6
  have hin : (Ent.mk A kd m true : Ent) ∈ fs ++ [Ent.mk A kd m true] := by simp
  have K := (M6.ok _ hin).known M6.hp (List.mem_map_of_mem (f := (·.a)) hin) M6.yl hz.b1
  have e7 := told (k := k) M6.hp K
  have F6 := M6.fnd
  refine seq_cut (fun ρ s' => ρ = mkE ns r ls z mk (wordsOf os) (wordsOf (us ++ [(kd, if mk = true then 2 else 0, m)])) F o9 (some (.ref f)) o11 (some (.int kd)) (some (.int m)) (some (.bl true)) (some (rootsD rs)) o16 (some (.tup [.int A, rootsD rs])) o18 ∧ s' = s6) ?_ ?_
  · have a0 : atI [D.int A, rootsD rs] 0 = some (.int A) := rfl
    have a1 : atI [D.int A, dueD kd m (Ent.w (Ent.mk A kd m true))] 1 = some (dueD kd m (Ent.w (Ent.mk A kd m true))) := rfl
    have a2 : atI ((fs ++ [Ent.mk A kd m true]).map entD) (-1) = some (entD (Ent.mk A kd m true)) := by rw [List.map_append]; exact atI_last (l := fs.map entD) (x := entD (Ent.mk A kd m true)) (by simp; omega)
    generalize wordsOf (us ++ [(kd, if mk = true then 2 else 0, m)]) = w
    simp -implicitDefEqProofs only [mkE, F6, a0, a2, entD, a1, e7, slot0, slotS, idx_tup, idx_ref, idxR_lst, neg_int, wo_map, p_ife, w_bnd, p_not, p_call, p_cons, p_nil, p_slot, p_idx, p_neg, p_cst, w_ret, w_neg, w_idx, w_truth, truth_bl, wo_some, w_ite, p_s0, Option.map_some, w_call, List.append_nil]
    simp -implicitDefEqProofs
  rintro _ s6 ⟨rfl, rfl⟩
  simp -implicitDefEqProofs
  exact ⟨os, us ++ [(kd, if mk = true then 2 else 0, m)], fs ++ [Ent.mk A kd m true], x, _, _, _, _, _, _, _, rfl, M6, hx, f6⟩
theorem tail_young {kd m : Int} {rs : List Int} {o9 o11 o16 o17 o18 : Option D} (hl : ShOk ls) (hz : SzOk z) (L : Lay r r2 F) (c : F < f) (M : MkI s r r2 F ls z half mk os us fs) (hx : FdOk n x) (hf : s[f]? = some (fdC x))
    (k0 : -3 ≤ kd) (k1 : kd < ls.length) (hm : ManyOk ls kd m) (m0 : 0 ≤ m) (m1 : m ≤ 1000) (hr : rs.length ≤ 11) (hr2 : ∀ a ∈ rs, a = 0 ∨ a ∈ fs.map (·.a)) (big : ¬ z.c < 2 + m) (ht : ((wordsOf os).length : Int) + (wordsOf us).length + m < 3000) (hy : ((wordsOf os).length : Int) + 2 + m ≤ z.a) :
    wp (execSs P (callAt P (k + 7)) bTail (mkE ns r ls z mk (wordsOf os) (wordsOf us) F o9 (some (.ref f)) o11 (some (.int kd)) (some (.int m)) (some (.bl false)) (some (rootsD rs)) o16 o17 o18)) (fun w s' => w.1 = .next ∧ TuQ ns r r2 F f n ls z half mk o9 o11 w.2 s') s := by
  unfold bTail
  have hfew := M.few
  have hnew := new_young M hz.b1 (by have := hz.a1; omega) m0 hy
  have e4 := make_young (k := k + 3) M.hp L.ok k0 k1 hm m0 m1 (by omega) hr2 (by have := M.tot; omega) (by simp; omega) hnew big (by omega)
  have M6 := M.made_young (kd := kd) (m := m) L m0 ht hy
  have hU0 : (wordsOf us).length ≤ 3002 := by have := M.tot; omega
  have hw : us = us := rfl
  generalize hA : 1 + ((wordsOf os).length : Int) = A at e4 M6
  have lF := lt_of M.fnd
  have hF := M.fnd
  have c1 : f ≠ r.nur := fun h => L.l1.off (Nat.le_of_lt c) (by simp [places, h])
  have c2 : f ≠ r.st := fun h => L.l1.off (Nat.le_of_lt c) (by simp [places, h])
  have c3 : F ≠ r.nur := fun h => L.F1 (by simp [places, h])
  have c4 : F ≠ r.st := fun h => L.F1 (by simp [places, h])
  generalize hs5 : stYoung s r (wordsOf os) (fs.map (·.a)) kd m A = s5 at e4 M6
  have f5 : s5[f]? = some (fdC x) := by rw [← hs5]; unfold stYoung; rw [set_ne (Ne.symm c2), set_ne (Ne.symm c1)]; exact hf
  have F5 : s5[F]? = some (.lst (fs.map entD)) := by rw [← hs5]; unfold stYoung; rw [set_ne (Ne.symm c4), set_ne (Ne.symm c3)]; exact hF
  clear hs5
  refine seq_cut (fun ρ s' => ρ = mkE ns r ls z mk (wordsOf os) (wordsOf us) F o9 (some (.ref f)) o11 (some (.int kd)) (some (.int m)) (some (.bl false)) (some (rootsD rs)) o16 (some (.tup [.int A, rootsD rs])) o18 ∧ s' = s) ?_ ?_
  · simp -implicitDefEqProofs [mkE, hA, LINE]
  rintro _ s ⟨rfl, rfl⟩
  have e5 := same (n := 2) (k := k + 4) (s := s5) (sm_due (A := A) hr)
  refine seq_cut (fun ρ s' => ρ = mkE ns r ls z mk (wordsOf os) (wordsOf us) F o9 (some (.ref f)) o11 (some (.int kd)) (some (.int m)) (some (.bl false)) (some (rootsD rs)) o16 (some (.tup [.int A, rootsD rs])) o18 ∧ s' = s5) ?_ ?_
  · have hh := fun cl vs Q => h_make (cl := cl) (vs := vs) (Q := Q) M
    simp -implicitDefEqProofs [mkE, ↓hh, e4, e5]
  rintro _ s5 ⟨rfl, rfl⟩
  have lw : wordsOf (os ++ [(kd, 0, m)]) = wordsOf os ++ objW kd 0 m := by rw [wordsOf_app]; simp [wordsOf]
  have hlen := objW_len (kd := kd) (col := 0) m0
  refine seq_cut (fun ρ s' => ρ = mkE ns r ls z mk (wordsOf (os ++ [(kd, 0, m)])) (wordsOf us) F o9 (some (.ref f)) o11 (some (.int kd)) (some (.int m)) (some (.bl false)) (some (rootsD rs)) o16 (some (.tup [.int A, rootsD rs])) o18 ∧ s' = s5) ?_ ?_
  · have e6 := l_head (k := k + 6) (s := s5) (kd := kd) (col := 0) m0 m1
    have hc : ((wordsOf os).map D.int).length + ((objW kd 0 m).map D.int).length ≤ LINE := by unfold LINE; have := M.tot; simp only [List.length_map]; omega
    simp at e6 hc lw
    simp -implicitDefEqProofs [mkE, e6, hc, lw]
  rintro _ s5 ⟨rfl, rfl⟩
  refine seq_cut (fun ρ s' => ρ = mkE ns r ls z mk (wordsOf (os ++ [(kd, 0, m)])) (wordsOf us) F o9 (some (.ref f)) o11 (some (.int kd)) (some (.int m)) (some (.bl false)) (some (rootsD rs)) o16 (some (.tup [.int A, rootsD rs])) o18 ∧ s' = s5.set F (.lst ((fs ++ [Ent.mk A kd m false]).map entD))) ?_ ?_
  · have hc : fs.length < 16777216 := by omega
    have a0 : atI [D.int A, rootsD rs] 0 = some (.int A) := rfl
    generalize wordsOf (os ++ [(kd, 0, m)]) = w
    simp -implicitDefEqProofs [mkE, F5, a0, hc, LINE]
    simp [entD, dueD, Ent.w, wYoung]
  rintro _ s6 ⟨rfl, rfl⟩
  have f6 : (s5.set F (.lst ((fs ++ [Ent.mk A kd m false]).map entD)))[f]? = some (fdC x) := by rw [set_ne (Nat.ne_of_lt c)]; exact f5
  generalize s5.set F (.lst ((fs ++ [Ent.mk A kd m false]).map entD)) = s6 at M6 f6
  have hin : (Ent.mk A kd m false : Ent) ∈ fs ++ [Ent.mk A kd m false] := by simp
  have K := (M6.ok _ hin).known M6.hp (List.mem_map_of_mem (f := (·.a)) hin) M6.yl hz.b1
  have e7 := told (k := k) M6.hp K
  have F6 := M6.fnd
  refine seq_cut (fun ρ s' => ρ = mkE ns r ls z mk (wordsOf (os ++ [(kd, 0, m)])) (wordsOf us) F o9 (some (.ref f)) o11 (some (.int kd)) (some (.int m)) (some (.bl false)) (some (rootsD rs)) o16 (some (.tup [.int A, rootsD rs])) o18 ∧ s' = s6) ?_ ?_
  · have a0 : atI [D.int A, rootsD rs] 0 = some (.int A) := rfl
    have a1 : atI [D.int A, dueD kd m (Ent.w (Ent.mk A kd m false))] 1 = some (dueD kd m (Ent.w (Ent.mk A kd m false))) := rfl
    have a2 : atI ((fs ++ [Ent.mk A kd m false]).map entD) (-1) = some (entD (Ent.mk A kd m false)) := by rw [List.map_append]; exact atI_last (l := fs.map entD) (x := entD (Ent.mk A kd m false)) (by simp; omega)
    generalize wordsOf (os ++ [(kd, 0, m)]) = w
    simp -implicitDefEqProofs only [mkE, F6, a0, a2, entD, a1, e7, slot0, slotS, idx_tup, idx_ref, idxR_lst, neg_int, wo_map, p_ife, w_bnd, p_not, p_call, p_cons, p_nil, p_slot, p_idx, p_neg, p_cst, w_ret, w_neg, w_idx, w_truth, truth_bl, wo_some, w_ite, p_s0, Option.map_some, w_call, List.append_nil]
    simp -implicitDefEqProofs
  rintro _ s6 ⟨rfl, rfl⟩
  simp -implicitDefEqProofs
  exact ⟨os ++ [(kd, 0, m)], us, fs ++ [Ent.mk A kd m false], x, _, _, _, _, _, _, _, rfl, M6, hx, f6⟩
theorem turn {o9 o11 o12 o13 o14 o15 o16 o17 o18 : Option D} (hl : ShOk ls) (hz : SzOk z) (L : Lay r r2 F) (c : F < f) (M : MkI s r r2 F ls z half mk os us fs) (hx : FdOk n x) (hf : s[f]? = some (fdC x)) (hn : n < 2 ^ 40) :
    wp (execSs P (callAt P (k + 7)) bTurn (mkE ns r ls z mk (wordsOf os) (wordsOf us) F o9 (some (.ref f)) o11 o12 o13 o14 o15 o16 o17 o18)) (fun w s' => w.1 = .next ∧ TuQ ns r r2 F f (n + 50) ls z half mk o9 o11 w.2 s') s := by
  have hl' := lt_of hf
  have hset : ∀ c, (s.set f c)[f]? = some c := fun c => set_get hl'
  unfold bTurn
  -- the kind
  have e1 := draw (k := k + 6) (m := ((ls.length : Nat) : Int) + 3) hf hx (dr6 (by omega) (by omega) (by have := hl.many; omega))
  have k1 := drF_ok (m := ((ls.length : Nat) : Int) + 3) hx (by omega)
  have r1 := drR_ok (x := x) (m := ((ls.length : Nat) : Int) + 3) (by omega)
  generalize drF x (((ls.length : Nat) : Int) + 3) = x1 at e1 k1
  generalize drR x (((ls.length : Nat) : Int) + 3) = m0 at e1 r1
  refine seq_cut (fun ρ s' => ρ = mkE ns r ls z mk (wordsOf os) (wordsOf us) F o9 (some (.ref f)) o11 (some (.int (m0 - 3))) o13 o14 o15 o16 o17 o18 ∧ s' = s.set f (fdC x1)) ?_ ?_
  · simp -implicitDefEqProofs [mkE, shD, e1]
  rintro _ _ ⟨rfl, rfl⟩
  generalize hkd : m0 - 3 = kd
  have M1 := M.set (c := fdC x1) L c
  have f1 := hset (fdC x1)
  generalize s.set f (fdC x1) = s1 at M1 f1
  -- how many
  refine seq_cut (fun ρ s' => ∃ m x', ρ = mkE ns r ls z mk (wordsOf os) (wordsOf us) F o9 (some (.ref f)) o11 (some (.int kd)) (some (.int m)) o14 o15 o16 o17 o18 ∧ s' = s1.set f (fdC x') ∧ FdOk (n + 4) x' ∧ 0 ≤ m ∧ m ≤ 1000 ∧ ManyOk ls kd m) ?_ ?_
  · by_cases q : kd < 0
    · obtain ⟨i, x', i0, i1, k2, e2⟩ := number (k := k + 4) hz f1 k1 (by omega)
      simp -implicitDefEqProofs [mkE, q, e2]
      refine ⟨x', rfl, k2.mono (by omega), i0, i1, ?_⟩
      unfold ManyOk
      rw [if_neg (by omega)]
      exact ⟨i0, i1⟩
    · have hk : kd.toNat < ls.length := by omega
      have e2 : atI (ls.map bsD) kd = some (bsD ls[kd.toNat]) := atI_of (by omega) (by simp [hk])
      simp -implicitDefEqProofs [mkE, q, shD, e2, bsD]
      refine ⟨x1, (set_self f1).symm, k1.mono (by omega), by have := hl.each _ (List.getElem_mem hk); omega, ?_⟩
      unfold ManyOk
      rw [if_pos (by omega)]
      exact ⟨ls[kd.toNat], by simp [hk], rfl⟩
  rintro _ _ ⟨m, x2, rfl, rfl, k2, m0', m1', hm⟩
  have M2 := M1.set (c := fdC x2) L c
  have f2 : (s1.set f (fdC x2))[f]? = some (fdC x2) := set_get (lt_of f1)
  generalize s1.set f (fdC x2) = s2 at M2 f2
  clear M1 f1 M hf
  -- great
  refine seq_cut (fun ρ s' => ρ = mkE ns r ls z mk (wordsOf os) (wordsOf us) F o9 (some (.ref f)) o11 (some (.int kd)) (some (.int m)) (some (.bl (decide (z.c < 2 + m)))) o15 o16 o17 o18 ∧ s' = s2) ?_ ?_
  · simp -implicitDefEqProofs [mkE, szD, at_z2]
  rintro _ s3 ⟨rfl, rfl⟩
  generalize hY : ((wordsOf os).length : Int) = Y
  generalize hU : ((wordsOf us).length : Int) = U
  have hd : wp (evalE P (callAt P (k + 7)) (.and [.cmp .lt (.bop .add false (.bop .add false (.bi .len false [.slot 5]) (.bi .len false [.slot 6])) (.slot 13)) (.cst (.int 3000)), .or [.slot 14, .cmp .le (.bop .add false (.bop .add false (.bi .len false [.slot 5]) (.cst (.int 2))) (.slot 13)) (.idx (.slot 3) (.cst (.int 0)))]]) (mkE ns r ls z mk (wordsOf os) (wordsOf us) F o9 (some (.ref f)) o11 (some (.int kd)) (some (.int m)) (some (.bl (decide (z.c < 2 + m)))) o15 o16 o17 o18)) (fun d s' => d = .bl (decide (Y + U + m < 3000 ∧ (z.c < 2 + m ∨ Y + 2 + m ≤ z.a))) ∧ s' = s3) s3 := by
    by_cases q1 : Y + U + m < 3000
    · by_cases q2 : z.c < 2 + m
      · simp -implicitDefEqProofs [mkE, hY, hU, q1, q2]
      · simp -implicitDefEqProofs [mkE, hY, hU, q1, q2, szD, at_z0]
    · simp -implicitDefEqProofs [mkE, hY, hU, q1]
  rw [p_s1, w_bnd, p_ife, w_bnd]
  refine wp_mono hd ?_
  rintro _ s3 ⟨rfl, rfl⟩
  rw [w_bnd, w_truth, truth_bl, wo_some, w_ite]
  by_cases G : Y + U + m < 3000 ∧ (z.c < 2 + m ∨ Y + 2 + m ≤ z.a)
  case neg =>
    rw [if_neg (by simpa using G)]
    simp -implicitDefEqProofs
    exact ⟨os, us, fs, x2, _, _, _, _, _, _, _, rfl, M2, k2.mono (by omega), f2⟩
  rw [if_pos (by simpa using G)]
  obtain ⟨G1, G2⟩ := G
  refine wp_mono (Q := fun w s' => w.1 = .next ∧ TuQ ns r r2 F f (n + 50) ls z half mk o9 o11 w.2 s') ?_ ?_
  case _ =>
    have e3 := draw (k := k + 6) (m := 6) f2 k2 (dr6 (by omega) (by omega) (by omega))
    have k3 := drF_ok (m := 6) k2 (by omega)
    have r3 := drR_ok (x := x2) (m := 6) (by omega)
    generalize drF x2 6 = x3 at e3 k3
    generalize drR x2 6 = w at e3 r3
    have M3 := M2.set (c := fdC x3) L c
    have f3 : (s3.set f (fdC x3))[f]? = some (fdC x3) := set_get (lt_of f2)
    have h2 : w < 4611686018427387904 := by omega
    have h3 : -(4611686018427387904 : Int) ≤ w := by omega
    have hfew := M3.few
    refine seq_cut (fun ρ s' => ∃ rs x4, ρ = mkE ns r ls z mk (wordsOf os) (wordsOf us) F o9 (some (.ref f)) o11 (some (.int kd)) (some (.int m)) (some (.bl (decide (z.c < 2 + m)))) (some (rootsD rs)) o16 o17 o18 ∧ s' = s3.set f (fdC x4) ∧ rs.length ≤ 11 ∧ (∀ a ∈ rs, a = 0 ∨ a ∈ fs.map (·.a)) ∧ FdOk (n + 50) x4) ?_ ?_
    · simp -implicitDefEqProofs [mkE, e3, h2, h3]
      refine roots (k := k + 5) M3.fnd f3 k3 (by omega) (by omega) c (by omega) ?_
      intro rs x4 b1 b2 b3
      have hc := cat1 (s := s3.set f (fdC x4)) (rs := rs) (by omega)
      simp only [List.map_append, List.map_cons, List.map_nil] at hc
      rw [List.set_set]
      simp -implicitDefEqProofs only [w_ret, w_bnd, w_mk, mk_val, wo_some, p_lst, p_cons, p_nil, p_cst, w_ite, LINE, w_bop, cat_ll, hc, w_bi, bi_tuple, seqOf_lst, wo_map, Option.map_some, p_gslot, Nm_eq]
      simp -implicitDefEqProofs
      refine ⟨by omega, rs ++ [0], by simp [rootsD], x4, rfl, by simp; omega, ?_, b3.mono (by omega)⟩
      intro a ha
      rcases List.mem_append.mp ha with h | h
      · simpa using b2 a h
      · simp [List.mem_singleton.mp h]
    rintro _ _ ⟨rs, x4, rfl, rfl, b1, b2, b3⟩
    have M4 := M2.set (c := fdC x4) L c
    have f4 : (s3.set f (fdC x4))[f]? = some (fdC x4) := set_get (lt_of f2)
    generalize s3.set f (fdC x4) = s4 at M4 f4
    rw [← hY, ← hU] at G1
    by_cases q : z.c < 2 + m
    · rw [decide_eq_true q]
      exact tail_old hl hz L c M4 b3 f4 (by omega) (by omega) hm m0' m1' b1 b2 q (by omega)
    · rw [decide_eq_false q]
      exact tail_young hl hz L c M4 b3 f4 (by omega) (by omega) hm m0' m1' b1 b2 q (by omega) (by have := G2.resolve_left q; omega)
  case _ =>
    rintro ⟨fl, ρ⟩ s' ⟨rfl, h⟩
    simp -implicitDefEqProofs
    exact h
end
end K
end

section
set_option linter.all false
set_option maxRecDepth 10000
namespace K
open VI
section
variable {k : Nat} {s : St} {r r2 : HR} {F f n : Nat} {x : Fd} {ns : List Int} {ls : List (List Bool)} {z : Sz} {half : Int} {mk : Bool} {yw ow st : List Int} {c0 : Cell} {os us : List (Int × Int × Int)} {fs : List Ent}
def MaQ (r r2 : HR) (ls : List (List Bool)) (z : Sz) (half : Int) (mk : Bool) (d : D) (s' : St) : Prop :=
  ∃ os us st, d = .tup [.tup ((wordsOf os).map .int), .tup ((wordsOf us).map .int), .int ((os.length : Nat) : Int), .int ((st.length : Nat) : Int)] ∧ HpAt s' r ls z half mk (wordsOf os) (wordsOf us) st ∧ HpAt s' r2 ls z 0 false [] [] [] ∧ allM os ∧ st.length = os.length + us.length ∧ (wordsOf os).length + (wordsOf us).length ≤ 3002
def OutI (ns : List Int) (r r2 : HR) (F : Nat) (ls : List (List Bool)) (z : Sz) (half : Int) (mk : Bool) (ρ : Env) (s' : St) : Prop :=
  ∃ os us fs o9 o10 o11 o12 o13 o14 o15 o16 o17 o18, ρ = mkE ns r ls z mk (wordsOf os) (wordsOf us) F o9 o10 o11 o12 o13 o14 o15 o16 o17 o18 ∧ MkI s' r r2 F ls z half mk os us fs
def bOut : List S := [.asg (.slot 10) (.call 45 [.slot 0, .slot 9] []), .for (.slot 11) .range [.bop .add false (.cst (.int 1)) (.call 46 [.slot 10, .cst (.int 6)] [])] bTurn]
theorem outer {o9 o10 o11 o12 o13 o14 o15 o16 o17 o18 : Option D} {i : Int} (h0 : 0 ≤ i) (hl : ShOk ls) (hz : SzOk z) (L : Lay r r2 F) (M : MkI s r r2 F ls z half mk os us fs) :
    wp (execSs P (callAt P (k + 7)) bOut (mkE ns r ls z mk (wordsOf os) (wordsOf us) F (some (.int i)) o10 o11 o12 o13 o14 o15 o16 o17 o18)) (fun w s' => w.1 = .next ∧ OutI ns r r2 F ls z half mk w.2 s') s := by
  unfold bOut
  have e1 := feed (k := k + 6) (s := s) (ns := ns) h0
  have M1 := M.app (t := [fdC (fdOf ns i)])
  have f1 : (s ++ [fdC (fdOf ns i)])[s.length]? = some (fdC (fdOf ns i)) := app_new rfl
  have k1 := @fdOf_ok ns i
  generalize fdOf ns i = x at e1 M1 f1 k1
  have c : F < s.length := lt_of M.fnd
  generalize s.length = f at e1 f1 c
  generalize s ++ [fdC x] = s1 at e1 M1 f1
  refine seq_cut (fun ρ s' => ρ = mkE ns r ls z mk (wordsOf os) (wordsOf us) F (some (.int i)) (some (.ref f)) o11 o12 o13 o14 o15 o16 o17 o18 ∧ s' = s1) ?_ ?_
  · simp -implicitDefEqProofs [mkE, e1]
  rintro _ s1 ⟨rfl, rfl⟩
  have e2 := draw (k := k + 6) (m := 6) f1 k1 (dr6 (by omega) (by omega) (by omega))
  have k2 := drF_ok (m := 6) k1 (by omega)
  have r2' := drR_ok (x := x) (m := 6) (by omega)
  generalize drF x 6 = x2 at e2 k2
  generalize drR x 6 = w at e2 r2'
  have M2 := M1.set (c := fdC x2) L c
  have f2 : (s1.set f (fdC x2))[f]? = some (fdC x2) := set_get (lt_of f1)
  have h2 : 1 + w < 4611686018427387904 := by omega
  have h3 : -(4611686018427387904 : Int) ≤ 1 + w := by omega
  simp -implicitDefEqProofs [mkE, x_for, e2, h2, h3]
  refine wp_forL (fun j ρ s' => ∃ o11, TuQ ns r r2 F f (2 + 50 * j) ls z half mk (some (.int i)) o11 ρ s') (fun _ _ _ _ _ => GOk_nil) ?_ ?_ ⟨o11, os, us, fs, x2, _, _, _, _, _, _, _, rfl, M2, k2.mono (by omega), f2⟩
  · rintro j ρ s' hj ⟨o11, os, us, fs, x3, o12, o13, o14, o15, o16, o17, o18, rfl, M3, k3, f3⟩
    rw [rangeD_len] at hj
    rw [rangeD_get]
    have ht := turn (k := k) (ns := ns) (o9 := some (.int i)) (o11 := some (.int (0 + (j : Nat)))) (o12 := o12) (o13 := o13) (o14 := o14) (o15 := o15) (o16 := o16) (o17 := o17) (o18 := o18) hl hz L c M3 k3 f3 (by omega)
    simp -implicitDefEqProofs only [mkE, w_bnd, p_gslot, wo_some, Nm_eq, List.set_cons_succ, List.set_cons_zero] at ht ⊢
    refine wp_mono ht ?_
    rintro ⟨fl, ρ⟩ s2 ⟨rfl, h⟩
    exact ⟨_, h⟩
  · rintro ρ s' ⟨o11, os, us, fs, x3, o12, o13, o14, o15, o16, o17, o18, rfl, M3, k3, f3⟩
    simp -implicitDefEqProofs
    exact ⟨os, us, fs, _, _, _, _, _, _, _, _, _, _, rfl, M3⟩
end
end K
end

section
set_option linter.all false
set_option maxRecDepth 10000
namespace K
open VI
section
variable {k : Nat} {s : St} {r r2 : HR} {F f n : Nat} {x : Fd} {ns : List Int} {ls : List (List Bool)} {z : Sz} {half : Int} {mk : Bool} {yw ow st : List Int} {c0 : Cell} {os us : List (Int × Int × Int)} {fs : List Ent}
theorem MkI.known (M : MkI s r r2 F ls z half mk os us fs) (hz : SzOk z) {e : Ent} (h : e ∈ fs) : Known s r e.a e.kd e.m e.w :=
  (M.ok e h).known M.hp (List.mem_map_of_mem (f := (·.a)) h) M.yl hz.b1
def eYoung : E := .cmp .eq (.idx (.idx (.slot 16) (.cst (.int 1))) (.cst (.int 2))) (.cst (.str [110, 117, 114, 115, 101, 114, 121]))
theorem young_count {o0 o1 o2 o3 o4 o5 o6 o7 o8 o9 o10 o11 o12 o13 o14 o15 o16 o17 o18 : Option D} (hF : s[F]? = some (.lst (fs.map entD))) (hl : fs.length ≤ 100000) {Q : List D → St → Prop}
    (h : ∀ a : List D, a.length = (fs.filter fun e => !e.old).length → Q a s) :
    wp (mapG [(F, .lst (fs.map entD))] (compF P (callAt P (k + 7)) (.cst (.int 1)) [16] false [eYoung] [o0, o1, o2, o3, o4, o5, o6, o7, o8, o9, o10, o11, o12, o13, o14, o15, o16, o17, o18]) (fs.map entD) []) Q s := by
  refine wp_mapG (fun i a s' => a.length = ((fs.take i).filter fun e => !e.old).length ∧ s' = s) ?_ ?_ ?_ ⟨rfl, rfl⟩
  · rintro i a s' hi ⟨_, rfl⟩ p hp
    rw [List.mem_singleton.mp hp]
    exact hF
  · rintro i a s' hi ⟨ha, rfl⟩
    have hi' : i < fs.length := by simpa using hi
    rw [List.getElem_map]
    have a2 : ∀ {x y z : D}, atI [x, y, z] 2 = some z := rfl
    have ht := List.take_succ_eq_append_getElem hi'
    have ll : ((fs.take i).filter fun e => !e.old).length ≤ fs.length := Nat.le_trans (List.length_filter_le ..) (by simp; omega)
    cases c : fs[i].old
    · have e : fs[i].w = wYoung := by unfold Ent.w; rw [c]; rfl
      simp -implicitDefEqProofs [eYoung, entD, at2b, dueD, a2, e, wYoung]
      rw [ht, List.filter_append, List.length_append, ← ha]
      exact ⟨by unfold LINE; omega, by simp [c]⟩
    · have e : fs[i].w = wOld := by unfold Ent.w; rw [c]; rfl
      simp -implicitDefEqProofs [eYoung, entD, at2b, dueD, a2, e, wOld]
      rw [ht, List.filter_append, List.length_append, ← ha]
      simp [c]
  · rintro a s' ⟨ha, rfl⟩
    rw [List.take_of_length_le (by simp)] at ha
    exact h a ha
theorem makes (hl : ShOk ls) (hz : SzOk z) (ok : HRok r) (l1 : Low r s.length) (l2 : Low r2 s.length) (n2 : r.nur ∉ places r2) (o2 : r.old ∉ places r2) (s2 : r.st ∉ places r2)
    (H : HpAt s r ls z half mk [] [] []) (H2 : HpAt s r2 ls z 0 false [] [] []) (hns : ns.length ≤ 63) :
    wpo (callAt P (k + 8) 55 [.fro (ns.map .int), .ref r.h, shD ls, szD z, .bl mk] s) (MaQ r r2 ls z half mk) := by
  refine call_wp (fn := f_l_makes) rfl rfl ?_
  have hb : b_l_makes = [.asg (.tup [.slot 5, .slot 6, .slot 7]) (.tup [.lst false [], .lst false [], .lst true []]),
    .asg (.slot 8) (.bop .add false (.bop .add false (.cst (.int 1)) (.idx (.slot 3) (.cst (.int 0)))) (.bop .mul false (.cst (.int 2)) (.idx (.slot 3) (.cst (.int 1))))),
    .for (.slot 9) .range [.cst (.int 1), .bi .max false [.cst (.int 4), .bi .min false [.cst (.int 64), .bi .len false [.slot 0]]]] bOut,
    .for (.tup [.slot 18, .slot 17]) .seq [.slot 7] [.ife (.not (.call 54 [.slot 1, .slot 18, .slot 17] [])) [.ret (.cst (.non))] []],
    .ret (.tup [.bi .tuple false [.slot 5], .bi .tuple false [.slot 6], .bi .len false [.comp false (.cst (.int 1)) [16] false .seq [.slot 7] [eYoung]], .bi .len false [.slot 7]])] := rfl
  show wp (execSs P (callAt P (k + 7)) b_l_makes [some (.fro (ns.map .int)), some (.ref r.h), some (shD ls), some (szD z), some (.bl mk), none, none, none, none, none, none, none, none, none, none, none, none, none, none]) _ s
  rw [hb]
  clear hb
  have L : Lay r r2 s.length := ⟨ok, l1, l2, n2, o2, s2⟩
  generalize hF : s.length = F at L
  have M0 : MkI (s ++ [.lst []]) r r2 F ls z half mk [] [] [] := ⟨H.app, H2.app, app_new hF.symm, fun _ h => (nomatch h), by have := hz.a1; simp [wordsOf]; omega, by simp [wordsOf], fun _ h => (nomatch h), rfl, rfl⟩
  refine seq_cut (fun ρ s' => ρ = [some (.fro (ns.map .int)), some (.ref r.h), some (shD ls), some (szD z), some (.bl mk), some (.lst []), some (.lst []), some (.ref F), none, none, none, none, none, none, none, none, none, none, none] ∧ s' = s ++ [.lst []]) ?_ ?_
  · simp -implicitDefEqProofs [LINE, hF]
  rintro _ _ ⟨rfl, rfl⟩
  generalize s ++ [.lst []] = s1 at M0
  refine seq_cut (fun ρ s' => OutI ns r r2 F ls z half mk ρ s') ?_ ?_
  · have e0 : atI [D.int z.a, .int z.b, .int z.c, .int z.d] 1 = some (.int z.b) := rfl
    have e : bopI .mul 2 z.b = some (2 * z.b) := bopI_mul (.inl (by omega))
    have eo : 1 + z.a + 2 * z.b = ob z := by unfold ob; omega
    simp -implicitDefEqProofs [szD, at_z0, e0, e, eo]
    exact ⟨[], [], [], none, none, none, none, none, none, none, none, none, none, rfl, M0⟩
  rintro ρ s2 hI
  refine seq_cut (fun ρ s' => OutI ns r r2 F ls z half mk ρ s') ?_ ?_
  · obtain ⟨os, us, fs, o9, o10, o11, o12, o13, o14, o15, o16, o17, o18, rfl, M⟩ := hI
    generalize hm : (if (4 : Int) < (if (ns.length : Int) < 64 then (ns.length : Int) else 64) then (if (ns.length : Int) < 64 then (ns.length : Int) else 64) else 4) = m
    have h4 : m ≤ 64 := by rw [← hm]; split <;> split <;> omega
    have h3 : 4 ≤ m := by rw [← hm]; split <;> split <;> omega
    have h1 : m < 4611686018427387904 := by omega
    have h2 : -(4611686018427387904 : Int) ≤ m := by omega
    simp -implicitDefEqProofs [mkE, x_for, hm, h1, h2]
    refine wp_forL (fun j ρ s' => OutI ns r r2 F ls z half mk ρ s') (fun _ _ _ _ _ => GOk_nil) ?_ ?_ ⟨os, us, fs, o9, o10, o11, o12, o13, o14, o15, o16, o17, o18, rfl, M⟩
    · rintro j ρ s' hj ⟨os, us, fs, o9, o10, o11, o12, o13, o14, o15, o16, o17, o18, rfl, M⟩
      rw [rangeD_get]
      have ht := outer (k := k) (ns := ns) (i := 1 + (j : Nat)) (o9 := o9) (o10 := o10) (o11 := o11) (o12 := o12) (o13 := o13) (o14 := o14) (o15 := o15) (o16 := o16) (o17 := o17) (o18 := o18) (by omega) hl hz L M
      simp -implicitDefEqProofs only [mkE, w_bnd, p_gslot, wo_some, Nm_eq, List.set_cons_succ, List.set_cons_zero] at ht ⊢
      refine wp_mono ht ?_
      rintro ⟨fl, ρ⟩ s2 ⟨rfl, h⟩
      exact h
    · rintro ρ s' h
      simp -implicitDefEqProofs
      exact h
  rintro ρ s2 hI
  refine seq_cut (fun ρ s' => OutI ns r r2 F ls z half mk ρ s') ?_ ?_
  · obtain ⟨os, us, fs, o9, o10, o11, o12, o13, o14, o15, o16, o17, o18, rfl, M⟩ := hI
    have g := M.fnd
    simp -implicitDefEqProofs [mkE, x_for, g]
    refine wp_forL (fun j ρ s' => s' = s2 ∧ ∃ o17 o18, ρ = mkE ns r ls z mk (wordsOf os) (wordsOf us) F o9 o10 o11 o12 o13 o14 o15 o16 o17 o18) ?_ ?_ ?_ ⟨rfl, o17, o18, rfl⟩
    · rintro j ρ s' hj ⟨rfl, _⟩ p hp
      rw [List.mem_singleton.mp hp]
      exact g
    · rintro j ρ s' hj ⟨rfl, o17, o18, rfl⟩
      rw [List.getElem_map]
      have hj' : j < fs.length := by simpa using hj
      have e := told (k := k) M.hp (M.known hz (List.getElem_mem hj'))
      simp -implicitDefEqProofs [mkE, entD, e]
    · rintro ρ s' ⟨rfl, o17, o18, rfl⟩
      simp -implicitDefEqProofs
      exact ⟨os, us, fs, _, _, _, _, _, _, _, _, _, _, rfl, M⟩
  rintro ρ s2 ⟨os, us, fs, o9, o10, o11, o12, o13, o14, o15, o16, o17, o18, rfl, M⟩
  have g := M.fnd
  simp -implicitDefEqProofs [mkE, g]
  refine young_count (k := k) g (by have := M.few; omega) fun a ha => ?_
  simp -implicitDefEqProofs [LINE, ha, M.cnt, g]
  have hq : ∀ s', HpAt s' r ls z half mk (wordsOf os) (wordsOf us) (fs.map (·.a)) → HpAt s' r2 ls z 0 false [] [] [] → MaQ r r2 ls z half mk (.tup [.tup ((wordsOf os).map .int), .tup ((wordsOf us).map .int), .int ((os.length : Nat) : Int), .int ((fs.length : Nat) : Int)]) s' :=
    fun s' h1 h2 => ⟨os, us, fs.map (·.a), by simp, h1, h2, M.ao, by simpa using M.cu, M.tot⟩
  exact ⟨fun _ => hq _ (M.hp.take l1) (M.hp2.take l2), fun _ => hq _ M.hp M.hp2⟩
end
end K
end

section
set_option linter.all false
set_option maxRecDepth 10000
namespace K
open VI
section
variable {k : Nat} {s : St} {r r2 : HR} {F f n : Nat} {x : Fd} {ns : List Int} {ls : List (List Bool)} {z : Sz} {half : Int} {mk : Bool} {yw ow st : List Int} {c0 : Cell} {os us : List (Int × Int × Int)} {fs : List Ent}
def bEnd : List S := [.asg (.slot 8) (.call 55 [.slot 0, .slot 6, .slot 4, .slot 5, .slot 2] []),
    .ife (.cmp .is (.slot 8) (.cst (.non))) [.ret (.cst (.bl false))] [],
    .asg (.tup [.slot 9, .slot 10, .slot 11, .slot 12]) (.slot 8),
    .asg (.slot 13) (.ite (.slot 2) (.cst (.int 1)) (.cst (.int 0))),
    .ife (.not (.call 48 [.meth (.slot 6) 24 [] [], .tup [.slot 9, .slot 13, .tup [], .slot 10, .tup [], .tup [], .slot 2]] [])) [.ret (.cst (.bl false))] [],
    .ife (.not (.call 48 [.meth (.slot 6) 25 [] [], .tup [.bi .len false [.slot 9], .cst (.int 0), .bi .len false [.slot 10], .slot 11, .cst (.int 0), .bop .sub false (.slot 12) (.slot 11)]] [])) [.ret (.cst (.bl false))] [],
    .ife (.not (.call 48 [.tup [.meth (.slot 6) 26 [] [], .meth (.slot 6) 27 [] [], .meth (.slot 7) 27 [] []], .tup [.tup [], .slot 2, .cst (.bl false)]] [])) [.ret (.cst (.bl false))] [],
    .ret (.call 48 [.meth (.slot 7) 24 [] [], .tup [.tup [], .cst (.int 0), .tup [], .tup [], .tup [], .tup [], .cst (.bl false)]] [])]
theorem smAll_ints {l : List Int} : smAll 0 (l.map D.int) = true := by
  induction l with
  | nil => rfl
  | cons a t ih => simp [smAll, sm, ih]
theorem sm_pic {half : Int} {mk : Bool} (h1 : yw.length < 2 ^ 62) (h2 : ow.length < 2 ^ 62) : sm 2 (picD yw half ow mk) = true := by
  have a1 : decide ((yw.map D.int).length < 2 ^ 62) = true := by simp; omega
  have a2 : decide ((ow.map D.int).length < 2 ^ 62) = true := by simp; omega
  simp only [picD, sm, smAll, smAll_ints, a1, a2]
  rfl
theorem meth24 {cl : Nat → List D → M D} {vs : M (List D)} {Q : D → St → Prop} (H : HpAt s r ls z half mk yw ow st) : wp (methC P cl 24 (.ref r.h) vs) Q s = wp (bnd vs fun vs => cl 67 (.ref r.h :: vs)) Q s := by
  have hm := H.h
  rw [hpC] at hm
  exact w_meth hm rfl rfl
theorem meth25 {cl : Nat → List D → M D} {vs : M (List D)} {Q : D → St → Prop} (H : HpAt s r ls z half mk yw ow st) : wp (methC P cl 25 (.ref r.h) vs) Q s = wp (bnd vs fun vs => cl 64 (.ref r.h :: vs)) Q s := by
  have hm := H.h
  rw [hpC] at hm
  exact w_meth hm rfl rfl
theorem meth26 {cl : Nat → List D → M D} {vs : M (List D)} {Q : D → St → Prop} (H : HpAt s r ls z half mk yw ow st) : wp (methC P cl 26 (.ref r.h) vs) Q s = wp (bnd vs fun vs => cl 63 (.ref r.h :: vs)) Q s := by
  have hm := H.h
  rw [hpC] at hm
  exact w_meth hm rfl rfl
theorem meth27 {cl : Nat → List D → M D} {vs : M (List D)} {Q : D → St → Prop} (H : HpAt s r ls z half mk yw ow st) : wp (methC P cl 27 (.ref r.h) vs) Q s = wp (bnd vs fun vs => cl 66 (.ref r.h :: vs)) Q s := by
  have hm := H.h
  rw [hpC] at hm
  exact w_meth hm rfl rfl
theorem law_end {o1 o3 : Option D} (hh : half = if mk = true then 1 else 0) (hl : ShOk ls) (hz : SzOk z) (ok : HRok r) (l1 : Low r s.length) (l2 : Low r2 s.length) (n2 : r.nur ∉ places r2) (o2 : r.old ∉ places r2) (s2 : r.st ∉ places r2)
    (H : HpAt s r ls z half mk [] [] []) (H2 : HpAt s r2 ls z 0 false [] [] []) (hns : ns.length ≤ 63) :
    wp (execSs P (callAt P (k + 8)) bEnd [some (.fro (ns.map .int)), o1, some (.bl mk), o3, some (shD ls), some (szD z), some (.ref r.h), some (.ref r2.h), none, none, none, none, none, none]) (fun w s' => w.1 = .ret (.bl true)) s := by
  unfold bEnd
  refine seq_cut (fun ρ s' => ∃ d, MaQ r r2 ls z half mk d s' ∧ ρ = [some (.fro (ns.map .int)), o1, some (.bl mk), o3, some (shD ls), some (szD z), some (.ref r.h), some (.ref r2.h), some d, none, none, none, none, none]) ?_ ?_
  · have e := makes (k := k) hl hz ok l1 l2 n2 o2 s2 H H2 hns
    simp -implicitDefEqProofs
    cases h : callAt P (k + 8) 55 [.fro (ns.map .int), .ref r.h, shD ls, szD z, .bl mk] s with
    | none => rw [h] at e; exact e.elim
    | some p =>
      obtain ⟨d, s'⟩ := p
      rw [h] at e
      simp -implicitDefEqProofs
      exact e
  rintro _ s ⟨d, ⟨os, us, st, rfl, H, H2, ao, hst, hw⟩, rfl⟩
  have hh1 : half = 0 ∨ half = 1 := by rw [hh]; split <;> omega
  have lo := @len_words os
  have lu := @len_words us
  have p1 := picture (k := k + 6) H hh1
  have p2 := picture (k := k + 6) H2 (.inl rfl)
  have c1 := counts (k := k + 5) H ao (by omega) hh1
  have m1 := is_marking (k := k + 7) H
  have m2 := is_marking (k := k + 7) H2
  have r1 := remembered (k := k + 7) H
  have q1 := same (k := k + 5) (s := s) (sm_pic (yw := wordsOf os) (ow := wordsOf us) (half := half) (mk := mk) (by omega) (by omega))
  have q2 := same (k := k + 5) (s := s) (sm_pic (yw := []) (ow := []) (half := 0) (mk := false) (by simp) (by simp))
  have h24 := fun cl vs Q => meth24 (cl := cl) (vs := vs) (Q := Q) H
  have h25 := fun cl vs Q => meth25 (cl := cl) (vs := vs) (Q := Q) H
  have h26 := fun cl vs Q => meth26 (cl := cl) (vs := vs) (Q := Q) H
  have h27 := fun cl vs Q => meth27 (cl := cl) (vs := vs) (Q := Q) H
  have g24 := fun cl vs Q => meth24 (cl := cl) (vs := vs) (Q := Q) H2
  have g27 := fun cl vs Q => meth27 (cl := cl) (vs := vs) (Q := Q) H2
  generalize hA : ((wordsOf os).length : Int) = A at *
  generalize hB : ((wordsOf us).length : Int) = B at *
  generalize hC : ((os.length : Nat) : Int) = C at *
  generalize hD : ((st.length : Nat) : Int) = G at *
  have q3 : callAt P (k + 8) 48 [.tup [.int A, .int 0, .int B, .int C, .int 0, .int (G - C)], .tup [.int A, .int 0, .int B, .int C, .int 0, .int (G - C)]] s = some (.bl true, s) := same (n := 1) (k := k + 6) (by simp [sm, smAll])
  have q4 : callAt P (k + 8) 48 [.tup [.tup [], .bl mk, .bl false], .tup [.tup [], .bl mk, .bl false]] s = some (.bl true, s) := same (n := 2) (k := k + 5) (by simp [sm, smAll])
  rw [picD] at p1 p2 q1 q2
  simp at q2 p2
  cases mk
  · simp at hh; subst hh
    simp -implicitDefEqProofs [D.isSame, ↓h24, ↓h25, ↓h26, ↓h27, ↓g24, ↓g27, p1, p2, c1, m1, m2, r1, q1, q2, q3, q4, LINE, hA, hB]
  · simp at hh; subst hh
    simp -implicitDefEqProofs [D.isSame, ↓h24, ↓h25, ↓h26, ↓h27, ↓g24, ↓g27, p1, p2, c1, m1, m2, r1, q1, q2, q3, q4, LINE, hA, hB]
end
end K
end

section
set_option linter.all false
set_option maxRecDepth 10000
namespace K
open VI
section
variable {k : Nat} {s : St} {r r2 : HR} {F f n : Nat} {x : Fd} {ns : List Int} {ls : List (List Bool)} {z : Sz} {half : Int} {mk : Bool} {yw ow st : List Int} {c0 : Cell} {os us : List (Int × Int × Int)} {fs : List Ent}
theorem ok_rr : HRok (rr 1) := by constructor <;> decide
theorem ok_rb : HRok rb := by constructor <;> decide
theorem plain (ns : List Int) (hns : ns.length ≤ 63) : ∃ st', callAt P 16 56 [.fro (ns.map .int)] [] = some (.bl true, st') := by
  suffices h : wpo (callAt P 16 56 [.fro (ns.map .int)] []) (fun d _ => d = .bl true) by
    generalize callAt P 16 56 [.fro (ns.map .int)] [] = o at h
    cases o with
    | none => exact h.elim
    | some p =>
      obtain ⟨d, s'⟩ := p
      cases h
      exact ⟨s', rfl⟩
  refine call_wp (fn := f_law) rfl rfl ?_
  have hb : b_law = [.asg (.slot 1) (.call 45 [.slot 0, .cst (.int 0)] []),
    .asg (.tup [.slot 2, .slot 3]) (.tup [.cmp .eq (.call 46 [.slot 1, .cst (.int 3)] []) (.cst (.int 0)), .cmp .eq (.call 46 [.slot 1, .cst (.int 2)] []) (.cst (.int 0))]),
    .asg (.tup [.slot 4, .slot 5]) (.ite (.slot 3) (.call 49 [.slot 1] []) (.tup [.call 50 [.slot 1] [], .call 51 [.slot 1] []])),
    .asg (.tup [.slot 6, .slot 7]) (.tup [.make 1 [.slot 4, .slot 5] [], .make 1 [.slot 4, .slot 5] []]),
    .ife (.and [.slot 2, .cmp .ne (.meth (.slot 6) 23 [.tup []] []) (.tup [])]) [.ret (.cst (.bl false))] []] ++ bEnd := rfl
  show wp (execSs P (callAt P 15) b_law [some (.fro (ns.map .int)), none, none, none, none, none, none, none, none, none, none, none, none, none]) _ []
  rw [hb]
  clear hb
  have e1 := feed (k := 14) (s := []) (ns := ns) (i := 0) (by omega)
  have k1 := @fdOf_ok ns 0
  generalize fdOf ns 0 = x at e1 k1
  refine seq_cut (fun ρ s' => ρ = [some (.fro (ns.map .int)), some (.ref 0), none, none, none, none, none, none, none, none, none, none, none, none] ∧ s' = [fdC x]) ?_ ?_
  · simp -implicitDefEqProofs [e1]
  rintro _ _ ⟨rfl, rfl⟩
  have e2 := draw (k := 14) (s := [fdC x]) (f := 0) (m := 3) rfl k1 (dr6 (by omega) (by omega) (by omega))
  have k2 := drF_ok (m := 3) k1 (by omega)
  generalize drF x 3 = x2 at e2 k2
  generalize drR x 3 = w at e2
  have e3 := draw (k := 14) (s := [fdC x2]) (f := 0) (m := 2) rfl k2 (dr6 (by omega) (by omega) (by omega))
  have k3 := drF_ok (m := 2) k2 (by omega)
  generalize drF x2 2 = x3 at e3 k3
  generalize drR x2 2 = v at e3
  simp at e2 e3
  refine seq_cut (fun ρ s' => ∃ mk wd : Bool, ρ = [some (.fro (ns.map .int)), some (.ref 0), some (.bl mk), some (.bl wd), none, none, none, none, none, none, none, none, none, none] ∧ s' = [fdC x3]) ?_ ?_
  · simp -implicitDefEqProofs [e2, e3, LINE]
    omega
  rintro _ _ ⟨mk, wd, rfl, rfl⟩
  refine seq_cut (fun ρ s' => ∃ ls z c0, ShOk ls ∧ SzOk z ∧ ρ = [some (.fro (ns.map .int)), some (.ref 0), some (.bl mk), some (.bl wd), some (shD ls), some (szD z), none, none, none, none, none, none, none, none] ∧ s' = [c0]) ?_ ?_
  · cases wd
    · obtain ⟨ls, x4, hl, _, k4, e4⟩ := shapes (k := 12) (s := [fdC x3]) (f := 0) rfl k3 (by omega)
      obtain ⟨z, x5, hz, k5, e5⟩ := sizes (k := 12) (s := [fdC x4]) (f := 0) rfl k4 (by omega)
      simp at e4 e5
      simp -implicitDefEqProofs [e4, e5, LINE]
      exact ⟨ls, hl, z, hz, rfl, rfl⟩
    · obtain ⟨ls, z, x4, hl, hz, k4, e4⟩ := wide (k := 12) (s := [fdC x3]) (f := 0) rfl k3 (by omega)
      simp at e4
      simp -implicitDefEqProofs [e4]
      exact ⟨ls, hl, z, hz, rfl, rfl⟩
  rintro _ _ ⟨ls, z, c0, hl, hz, rfl, rfl⟩
  refine seq_cut (fun ρ s' => ρ = [some (.fro (ns.map .int)), some (.ref 0), some (.bl mk), some (.bl wd), some (shD ls), some (szD z), some (.ref 1), some (.ref 10), none, none, none, none, none, none] ∧ s' = st0 c0 ls z) ?_ ?_
  · have i1 := init1 (k := 11) (c0 := c0) hl hz
    have i2 := init2 (k := 11) (c0 := c0) hl hz
    have w1 := fun Q => w_make (P := P) (c := 1) (n := 1) (vs := [shD ls, szD z]) (cl := callAt P 15) (Q := Q) (s := [c0]) rfl rfl i1
    have w2 := fun Q => w_make (P := P) (c := 1) (n := 10) (vs := [shD ls, szD z]) (cl := callAt P 15) (Q := Q) (s := c0 :: heap0 1 ls z) rfl rfl i2
    simp -implicitDefEqProofs [↓w1, ↓w2, LINE]
    rfl
  rintro _ _ ⟨rfl, rfl⟩
  cases mk
  · refine seq_cut (fun ρ s' => ρ = [some (.fro (ns.map .int)), some (.ref 0), some (.bl false), some (.bl wd), some (shD ls), some (szD z), some (.ref 1), some (.ref 10), none, none, none, none, none, none] ∧ s' = st0 c0 ls z) ?_ ?_
    · simp -implicitDefEqProofs
    rintro _ _ ⟨rfl, rfl⟩
    refine wp_mono (law_end (k := 7) (r := rr 1) (r2 := rr 10) (half := 0) (mk := false) rfl hl hz ok_rr (by intro p hp; simp [places, rr] at hp; simp [st0, heap0]; omega) (by intro p hp; simp [places, rr] at hp; simp [st0, heap0]; omega) (by decide) (by decide) (by decide) at_st0 at_st0' hns) ?_
    rintro ⟨fl, ρ⟩ s' h
    cases h
    exact ⟨fun _ => rfl, fun _ => rfl⟩
  · refine seq_cut (fun ρ s' => ρ = [some (.fro (ns.map .int)), some (.ref 0), some (.bl true), some (.bl wd), some (shD ls), some (szD z), some (.ref 1), some (.ref 10), none, none, none, none, none, none] ∧ s' = st4 c0 ls z) ?_ ?_
    · have e := begin0 (k := 9) (c0 := c0) (ls := ls) (z := z)
      have h1 : (st0 c0 ls z)[1]? = some (.ins 1 [(4, shD ls), (0, szD z), (1, .ref 2), (3, .ref 5), (5, .int 0), (2, .ref 6), (6, .ref 7), (8, .ref 8), (18, .int 0), (13, .bl false), (7, .ref 9)]) := rfl
      have hm := fun cl vs Q => w_meth (P := P) (cl := cl) (vs := vs) (Q := Q) (m := 23) (f := 65) h1 rfl rfl
      have hne : ∀ s, copM .ne (.tup []) (.tup []) s = some (false, s) := fun s => rfl
      simp -implicitDefEqProofs [↓hm, e, hne, LINE]
    rintro _ _ ⟨rfl, rfl⟩
    refine wp_mono (law_end (k := 7) (r := rb) (r2 := rr 10) (half := 1) (mk := true) rfl hl hz ok_rb (by intro p hp; simp [places, rb] at hp; simp [st4, hp1, heap0]; omega) (by intro p hp; simp [places, rr] at hp; simp [st4, hp1, heap0]; omega) (by decide) (by decide) (by decide) at_st4 at_st4' hns) ?_
    rintro ⟨fl, ρ⟩ s' h
    cases h
    exact ⟨fun _ => rfl, fun _ => rfl⟩
end
end K
end

section
set_option Elab.async false
set_option linter.all false
set_option maxRecDepth 1000000
set_option maxHeartbeats 0
namespace KL
open K PySem PySem.Spec PyProof.Rows L2 VIS
abbrev prog : PySem.Program := PySem.Challenge.pw_movedrun_k38_objects_are_words
abbrev rw : PySem.W.OpenLaw := PySem.Challenge.rw_movedrun_k38_objects_are_words
def top (i : Nat) : Stmt := prog.main.body.getD i (.Pass ⟨0, 0, 0, 0⟩)
abbrev st0 : Stmt := (top 14)
abbrev nm0 : List Str := [(.ofString "thing")]
abbrev pm0 : List Str := [(.ofString "thing")]
def d0 : He.DefD := ⟨("is_integer", none), "is_integer", "is_integer", defArgs st0, defBody st0, defScope st0, [], []⟩
abbrev st1 : Stmt := (top 24)
abbrev nm1 : List Str := [(.ofString "thing"), (.ofString "one")]
abbrev pm1 : List Str := [(.ofString "thing")]
def d1 : He.DefD := ⟨("is_shape", none), "is_shape", "is_shape", defArgs st1, defBody st1, defScope st1, [], []⟩
abbrev st2 : Stmt := (top 25)
abbrev nm2 : List Str := [(.ofString "thing"), (.ofString "one")]
abbrev pm2 : List Str := [(.ofString "thing")]
def d2 : He.DefD := ⟨("is_shapes", none), "is_shapes", "is_shapes", defArgs st2, defBody st2, defScope st2, [], []⟩
abbrev st3 : Stmt := (top 26)
abbrev nm3 : List Str := [(.ofString "thing"), (.ofString "one"), (.ofString "nursery"), (.ofString "half"), (.ofString "great"), (.ofString "age")]
abbrev pm3 : List Str := [(.ofString "thing")]
def d3 : He.DefD := ⟨("is_sizes", none), "is_sizes", "is_sizes", defArgs st3, defBody st3, defScope st3, [], []⟩
abbrev st4 : Stmt := (top 27)
abbrev nm4 : List Str := [(.ofString "shapes"), (.ofString "thing")]
abbrev pm4 : List Str := [(.ofString "shapes"), (.ofString "thing")]
def d4 : He.DefD := ⟨("is_heap_kind", none), "is_heap_kind", "is_heap_kind", defArgs st4, defBody st4, defScope st4, [], []⟩
abbrev st5 : Stmt := (top 28)
abbrev nm5 : List Str := [(.ofString "shapes"), (.ofString "kind"), (.ofString "thing")]
abbrev pm5 : List Str := [(.ofString "shapes"), (.ofString "kind"), (.ofString "thing")]
def d5 : He.DefD := ⟨("is_size", none), "is_size", "is_size", defArgs st5, defBody st5, defScope st5, [], []⟩
abbrev st6 : Stmt := (top 29)
abbrev nm6 : List Str := [(.ofString "shapes")]
abbrev pm6 : List Str := [(.ofString "shapes")]
def d6 : He.DefD := ⟨("need_shapes", none), "need_shapes", "need_shapes", defArgs st6, defBody st6, defScope st6, [], []⟩
abbrev st7 : Stmt := (top 30)
abbrev nm7 : List Str := [(.ofString "sizes")]
abbrev pm7 : List Str := [(.ofString "sizes")]
def d7 : He.DefD := ⟨("need_sizes", none), "need_sizes", "need_sizes", defArgs st7, defBody st7, defScope st7, [], []⟩
abbrev st8 : Stmt := (top 31)
abbrev nm8 : List Str := [(.ofString "shapes"), (.ofString "kind")]
abbrev pm8 : List Str := [(.ofString "shapes"), (.ofString "kind")]
def d8 : He.DefD := ⟨("need_kind", none), "need_kind", "need_kind", defArgs st8, defBody st8, defScope st8, [], []⟩
abbrev st9 : Stmt := (top 32)
abbrev nm9 : List Str := [(.ofString "shapes"), (.ofString "kind"), (.ofString "slots")]
abbrev pm9 : List Str := [(.ofString "shapes"), (.ofString "kind"), (.ofString "slots")]
def d9 : He.DefD := ⟨("need_size", none), "need_size", "need_size", defArgs st9, defBody st9, defScope st9, [], []⟩
abbrev st10 : Stmt := (top 33)
abbrev nm10 : List Str := [(.ofString "kind"), (.ofString "age"), (.ofString "colour")]
abbrev pm10 : List Str := [(.ofString "kind"), (.ofString "age"), (.ofString "colour")]
def d10 : He.DefD := ⟨("head_of", none), "head_of", "head_of", defArgs st10, defBody st10, defScope st10, [], []⟩
abbrev st11 : Stmt := (top 34)
abbrev nm11 : List Str := [(.ofString "word")]
abbrev pm11 : List Str := [(.ofString "word")]
def d11 : He.DefD := ⟨("kind_in", none), "kind_in", "kind_in", defArgs st11, defBody st11, defScope st11, [], []⟩
abbrev st12 : Stmt := (top 35)
abbrev nm12 : List Str := [(.ofString "word")]
abbrev pm12 : List Str := [(.ofString "word")]
def d12 : He.DefD := ⟨("age_in", none), "age_in", "age_in", defArgs st12, defBody st12, defScope st12, [], []⟩
abbrev st13 : Stmt := (top 36)
abbrev nm13 : List Str := [(.ofString "word")]
abbrev pm13 : List Str := [(.ofString "word")]
def d13 : He.DefD := ⟨("colour_in", none), "colour_in", "colour_in", defArgs st13, defBody st13, defScope st13, [], []⟩
abbrev st14 : Stmt := (top 38)
abbrev nm14 : List Str := [(.ofString "shapes"), (.ofString "kind"), (.ofString "many")]
abbrev pm14 : List Str := [(.ofString "shapes"), (.ofString "kind"), (.ofString "many")]
def d14 : He.DefD := ⟨("reference_flags", none), "reference_flags", "reference_flags", defArgs st14, defBody st14, defScope st14, [], []⟩
abbrev st15 : Stmt := (top 41)
abbrev nm15 : List Str := [(.ofString "sizes"), (.ofString "half")]
abbrev pm15 : List Str := [(.ofString "sizes"), (.ofString "half")]
def d15 : He.DefD := ⟨("half_begin", none), "half_begin", "half_begin", defArgs st15, defBody st15, defScope st15, [], []⟩
abbrev st16 : Stmt := (top 42)
abbrev nm16 : List Str := [(.ofString "sizes")]
abbrev pm16 : List Str := [(.ofString "sizes")]
def d16 : He.DefD := ⟨("old_begin", none), "old_begin", "old_begin", defArgs st16, defBody st16, defScope st16, [], []⟩
abbrev st17 : Stmt := (top 43)
abbrev nm17 : List Str := [(.ofString "heap"), (.ofString "address")]
abbrev pm17 : List Str := [(.ofString "heap"), (.ofString "address")]
def d17 : He.DefD := ⟨("is_old", none), "is_old", "is_old", defArgs st17, defBody st17, defScope st17, [], []⟩
abbrev st18 : Stmt := (top 44)
abbrev nm18 : List Str := [(.ofString "heap"), (.ofString "address")]
abbrev pm18 : List Str := [(.ofString "heap"), (.ofString "address")]
def d18 : He.DefD := ⟨("is_young", none), "is_young", "is_young", defArgs st18, defBody st18, defScope st18, [], []⟩
abbrev st19 : Stmt := (top 45)
abbrev nm19 : List Str := [(.ofString "heap"), (.ofString "address"), (.ofString "half")]
abbrev pm19 : List Str := [(.ofString "heap"), (.ofString "address")]
def d19 : He.DefD := ⟨("room_of", none), "room_of", "room_of", defArgs st19, defBody st19, defScope st19, [], []⟩
abbrev st20 : Stmt := (top 46)
abbrev nm20 : List Str := [(.ofString "heap"), (.ofString "address"), (.ofString "words"), (.ofString "first")]
abbrev pm20 : List Str := [(.ofString "heap"), (.ofString "address")]
def d20 : He.DefD := ⟨("word_at", none), "word_at", "word_at", defArgs st20, defBody st20, defScope st20, [], []⟩
abbrev st21 : Stmt := (top 47)
abbrev nm21 : List Str := [(.ofString "heap"), (.ofString "address"), (.ofString "word"), (.ofString "words"), (.ofString "first")]
abbrev pm21 : List Str := [(.ofString "heap"), (.ofString "address"), (.ofString "word")]
def d21 : He.DefD := ⟨("lay_word", none), "lay_word", "lay_word", defArgs st21, defBody st21, defScope st21, [], []⟩
abbrev st22 : Stmt := (top 48)
abbrev nm22 : List Str := [(.ofString "heap"), (.ofString "address")]
abbrev pm22 : List Str := [(.ofString "heap"), (.ofString "address")]
def d22 : He.DefD := ⟨("kind_at", none), "kind_at", "kind_at", defArgs st22, defBody st22, defScope st22, [], []⟩
abbrev st23 : Stmt := (top 49)
abbrev nm23 : List Str := [(.ofString "heap"), (.ofString "address")]
abbrev pm23 : List Str := [(.ofString "heap"), (.ofString "address")]
def d23 : He.DefD := ⟨("many_at", none), "many_at", "many_at", defArgs st23, defBody st23, defScope st23, [], []⟩
abbrev st24 : Stmt := (top 50)
abbrev nm24 : List Str := [(.ofString "heap"), (.ofString "address")]
abbrev pm24 : List Str := [(.ofString "heap"), (.ofString "address")]
def d24 : He.DefD := ⟨("colour_at", none), "colour_at", "colour_at", defArgs st24, defBody st24, defScope st24, [], []⟩
abbrev st25 : Stmt := (top 51)
abbrev nm25 : List Str := [(.ofString "heap"), (.ofString "address"), (.ofString "colour"), (.ofString "word")]
abbrev pm25 : List Str := [(.ofString "heap"), (.ofString "address"), (.ofString "colour")]
def d25 : He.DefD := ⟨("paint", none), "paint", "paint", defArgs st25, defBody st25, defScope st25, [], []⟩
abbrev st26 : Stmt := (top 52)
abbrev nm26 : List Str := [(.ofString "heap"), (.ofString "address"), (.ofString "words"), (.ofString "first"), (.ofString "begin")]
abbrev pm26 : List Str := [(.ofString "heap"), (.ofString "address")]
def d26 : He.DefD := ⟨("body_of", none), "body_of", "body_of", defArgs st26, defBody st26, defScope st26, [], []⟩
abbrev st27 : Stmt := (top 53)
abbrev nm27 : List Str := [(.ofString "heap"), (.ofString "address")]
abbrev pm27 : List Str := [(.ofString "heap"), (.ofString "address")]
def d27 : He.DefD := ⟨("flags_at", none), "flags_at", "flags_at", defArgs st27, defBody st27, defScope st27, [], []⟩
abbrev st28 : Stmt := (top 54)
abbrev nm28 : List Str := [(.ofString "heap"), (.ofString "address"), (.ofString "flags"), (.ofString "slot")]
abbrev pm28 : List Str := [(.ofString "heap"), (.ofString "address")]
def d28 : He.DefD := ⟨("reference_slots", none), "reference_slots", "reference_slots", defArgs st28, defBody st28, defScope st28, [], []⟩
abbrev st29 : Stmt := (top 55)
abbrev nm29 : List Str := [(.ofString "words"), (.ofString "first"), (.ofString "found"), (.ofString "at")]
abbrev pm29 : List Str := [(.ofString "words"), (.ofString "first")]
def d29 : He.DefD := ⟨("objects_from", none), "objects_from", "objects_from", defArgs st29, defBody st29, defScope st29, [], []⟩
abbrev st30 : Stmt := (top 56)
abbrev nm30 : List Str := [(.ofString "words"), (.ofString "first"), (.ofString "kind"), (.ofString "age"), (.ofString "colour"), (.ofString "body"), (.ofString "address")]
abbrev pm30 : List Str := [(.ofString "words"), (.ofString "first"), (.ofString "kind"), (.ofString "age"), (.ofString "colour"), (.ofString "body")]
def d30 : He.DefD := ⟨("put_behind", none), "put_behind", "put_behind", defArgs st30, defBody st30, defScope st30, [], []⟩
abbrev st31 : Stmt := (top 57)
abbrev nm31 : List Str := [(.ofString "heap"), (.ofString "found")]
abbrev pm31 : List Str := [(.ofString "heap")]
def d31 : He.DefD := ⟨("young_objects", none), "young_objects", "young_objects", defArgs st31, defBody st31, defScope st31, [], []⟩
abbrev st32 : Stmt := (top 59)
abbrev nm32 : List Str := [(.ofString "heap"), (.ofString "slots"), (.ofString "slot")]
abbrev pm32 : List Str := [(.ofString "heap"), (.ofString "slots")]
def d32 : He.DefD := ⟨("keep_slots", none), "keep_slots", "keep_slots", defArgs st32, defBody st32, defScope st32, [], []⟩
abbrev st33 : Stmt := (top 61)
abbrev nm33 : List Str := [(.ofString "heap"), (.ofString "address")]
abbrev pm33 : List Str := [(.ofString "heap"), (.ofString "address")]
def d33 : He.DefD := ⟨("need_address", none), "need_address", "need_address", defArgs st33, defBody st33, defScope st33, [], []⟩
abbrev st34 : Stmt := (top 64)
abbrev nm34 : List Str := [(.ofString "heap"), (.ofString "roots"), (.ofString "root")]
abbrev pm34 : List Str := [(.ofString "heap"), (.ofString "roots")]
def d34 : He.DefD := ⟨("need_roots", none), "need_roots", "need_roots", defArgs st34, defBody st34, defScope st34, [], []⟩
abbrev st35 : Stmt := (top 66)
abbrev nm35 : List Str := [(.ofString "heap"), (.ofString "address")]
abbrev pm35 : List Str := [(.ofString "heap"), (.ofString "address")]
def d35 : He.DefD := ⟨("shade", none), "shade", "shade", defArgs st35, defBody st35, defScope st35, [], []⟩
abbrev st36 : Stmt := (top 67)
abbrev nm36 : List Str := [(.ofString "heap"), (.ofString "roots"), (.ofString "root")]
abbrev pm36 : List Str := [(.ofString "heap"), (.ofString "roots")]
def d36 : He.DefD := ⟨("shade_all", none), "shade_all", "shade_all", defArgs st36, defBody st36, defScope st36, [], []⟩
abbrev st37 : Stmt := (top 73)
abbrev nm37 : List Str := [(.ofString "moving"), (.ofString "address"), (.ofString "heap"), (.ofString "word"), (.ofString "body"), (.ofString "age"), (.ofString "fits"), (.ofString "found"), (.ofString "colour")]
abbrev pm37 : List Str := [(.ofString "moving"), (.ofString "address")]
def d37 : He.DefD := ⟨("move", none), "move", "move", defArgs st37, defBody st37, defScope st37, [], []⟩
abbrev st38 : Stmt := (top 74)
abbrev nm38 : List Str := [(.ofString "moving"), (.ofString "reference")]
abbrev pm38 : List Str := [(.ofString "moving"), (.ofString "reference")]
def d38 : He.DefD := ⟨("lead", none), "lead", "lead", defArgs st38, defBody st38, defScope st38, [], []⟩
abbrev st39 : Stmt := (top 75)
abbrev nm39 : List Str := [(.ofString "moving"), (.ofString "slots"), (.ofString "slot")]
abbrev pm39 : List Str := [(.ofString "moving"), (.ofString "slots")]
def d39 : He.DefD := ⟨("lead_slots", none), "lead_slots", "lead_slots", defArgs st39, defBody st39, defScope st39, [], []⟩
abbrev st40 : Stmt := (top 76)
abbrev nm40 : List Str := [(.ofString "moving"), (.ofString "heap"), (.ofString "begin"), (.ofString "slots")]
abbrev pm40 : List Str := [(.ofString "moving")]
def d40 : He.DefD := ⟨("lead_moved", none), "lead_moved", "lead_moved", defArgs st40, defBody st40, defScope st40, [], []⟩
abbrev st41 : Stmt := (top 77)
abbrev nm41 : List Str := [(.ofString "moving"), (.ofString "kept"), (.ofString "heap"), (.ofString "fresh"), (.ofString "address")]
abbrev pm41 : List Str := [(.ofString "moving"), (.ofString "kept")]
def d41 : He.DefD := ⟨("keep_anew", none), "keep_anew", "keep_anew", defArgs st41, defBody st41, defScope st41, [], []⟩
abbrev st42 : Stmt := (top 78)
abbrev nm42 : List Str := [(.ofString "heap"), (.ofString "roots"), (.ofString "settling"), (.ofString "moving"), (.ofString "young"), (.ofString "kept"), (.ofString "found"), (.ofString "root"), (.ofString "address")]
abbrev pm42 : List Str := [(.ofString "heap"), (.ofString "roots"), (.ofString "settling")]
def d42 : He.DefD := ⟨("moved_by", none), "moved_by", "moved_by", defArgs st42, defBody st42, defScope st42, [], []⟩
abbrev st43 : Stmt := (top 80)
abbrev nm43 : List Str := [(.ofString "heap"), (.ofString "words"), (.ofString "grey"), (.ofString "remembered")]
abbrev pm43 : List Str := [(.ofString "heap")]
def d43 : He.DefD := ⟨("picture_of", none), "picture_of", "picture_of", defArgs st43, defBody st43, defScope st43, [], []⟩
abbrev st44 : Stmt := (top 86)
abbrev nm44 : List Str := [(.ofString "heap"), (.ofString "roots"), (.ofString "settled")]
abbrev pm44 : List Str := [(.ofString "heap"), (.ofString "roots")]
def d44 : He.DefD := ⟨("begin_whole", none), "begin_whole", "begin_whole", defArgs st44, defBody st44, defScope st44, [], []⟩
abbrev st45 : Stmt := (top 91)
abbrev nm45 : List Str := [(.ofString "_law_script"), (.ofString "_law_k"), (.ofString "_law_cell")]
abbrev pm45 : List Str := [(.ofString "_law_script"), (.ofString "_law_k")]
def d45 : He.DefD := ⟨("_law_feed", none), "_law_feed", "_law_feed", defArgs st45, defBody st45, defScope st45, [], []⟩
abbrev st46 : Stmt := (top 92)
abbrev nm46 : List Str := [(.ofString "_law_feed_here"), (.ofString "_law_many"), (.ofString "_law_rest"), (.ofString "_law_got"), (.ofString "_law_stir")]
abbrev pm46 : List Str := [(.ofString "_law_feed_here"), (.ofString "_law_many")]
def d46 : He.DefD := ⟨("_law_draw", none), "_law_draw", "_law_draw", defArgs st46, defBody st46, defScope st46, [], []⟩
abbrev st47 : Stmt := (top 93)
abbrev nm47 : List Str := [(.ofString "_law_feed_here"), (.ofString "_law_things")]
abbrev pm47 : List Str := [(.ofString "_law_feed_here"), (.ofString "_law_things")]
def d47 : He.DefD := ⟨("_law_one", none), "_law_one", "_law_one", defArgs st47, defBody st47, defScope st47, [], []⟩
abbrev st48 : Stmt := (top 94)
abbrev nm48 : List Str := [(.ofString "_law_told_here"), (.ofString "_law_due"), (.ofString "_law_k")]
abbrev pm48 : List Str := [(.ofString "_law_told_here"), (.ofString "_law_due")]
def d48 : He.DefD := ⟨("_law_same", none), "_law_same", "_law_same", defArgs st48, defBody st48, defScope st48, [], []⟩
abbrev st49 : Stmt := (top 95)
abbrev nm49 : List Str := [(.ofString "_law_feed_here"), (.ofString "_law_many"), (.ofString "_law_most"), (.ofString "_law_a"), (.ofString "_law_b"), (.ofString "_law_shapes_here"), (.ofString "_law_slot"), (.ofString "_law_k"), (.ofString "_law_nursery"), (.ofString "_law_sizes_here"), (.ofString "_law_shape")]
abbrev pm49 : List Str := [(.ofString "_law_feed_here")]
def d49 : He.DefD := ⟨("_law_wide", none), "_law_wide", "_law_wide", defArgs st49, defBody st49, defScope st49, [], []⟩
abbrev st50 : Stmt := (top 96)
abbrev nm50 : List Str := [(.ofString "_law_feed_here"), (.ofString "_law_many"), (.ofString "_law_wide_here"), (.ofString "_law_found"), (.ofString "_law_field"), (.ofString "_law_turn"), (.ofString "_law_at"), (.ofString "_law_one_here"), (.ofString "_law_two"), (.ofString "_law_shape")]
abbrev pm50 : List Str := [(.ofString "_law_feed_here")]
def d50 : He.DefD := ⟨("_law_shapes", none), "_law_shapes", "_law_shapes", defArgs st50, defBody st50, defScope st50, [], []⟩
abbrev st51 : Stmt := (top 97)
abbrev nm51 : List Str := [(.ofString "_law_feed_here"), (.ofString "_law_nursery")]
abbrev pm51 : List Str := [(.ofString "_law_feed_here")]
def d51 : He.DefD := ⟨("_law_sizes", none), "_law_sizes", "_law_sizes", defArgs st51, defBody st51, defScope st51, [], []⟩
abbrev st52 : Stmt := (top 98)
abbrev nm52 : List Str := [(.ofString "_law_feed_here"), (.ofString "_law_sizes_here"), (.ofString "_law_way")]
abbrev pm52 : List Str := [(.ofString "_law_feed_here"), (.ofString "_law_sizes_here")]
def d52 : He.DefD := ⟨("_law_number", none), "_law_number", "_law_number", defArgs st52, defBody st52, defScope st52, [], []⟩
abbrev st53 : Stmt := (top 99)
abbrev nm53 : List Str := [(.ofString "_law_kind"), (.ofString "_law_colour"), (.ofString "_law_many")]
abbrev pm53 : List Str := [(.ofString "_law_kind"), (.ofString "_law_colour"), (.ofString "_law_many")]
def d53 : He.DefD := ⟨("_law_head", none), "_law_head", "_law_head", defArgs st53, defBody st53, defScope st53, [], []⟩
abbrev st54 : Stmt := (top 100)
abbrev nm54 : List Str := [(.ofString "_law_heap"), (.ofString "_law_address"), (.ofString "_law_due")]
abbrev pm54 : List Str := [(.ofString "_law_heap"), (.ofString "_law_address"), (.ofString "_law_due")]
def d54 : He.DefD := ⟨("_law_told", none), "_law_told", "_law_told", defArgs st54, defBody st54, defScope st54, [], []⟩
abbrev st55 : Stmt := (top 101)
abbrev nm55 : List Str := [(.ofString "_law_script"), (.ofString "_law_heap"), (.ofString "_law_shapes_here"), (.ofString "_law_sizes_here"), (.ofString "_law_marking"), (.ofString "_law_young"), (.ofString "_law_old"), (.ofString "_law_found"), (.ofString "_law_begin"), (.ofString "_law_k"), (.ofString "_law_feed_here"), (.ofString "_law_turn"), (.ofString "_law_kind"), (.ofString "_law_many"), (.ofString "_law_great"), (.ofString "_law_roots"), (.ofString "_law_one_here"), (.ofString "_law_due"), (.ofString "_law_address")]
abbrev pm55 : List Str := [(.ofString "_law_script"), (.ofString "_law_heap"), (.ofString "_law_shapes_here"), (.ofString "_law_sizes_here"), (.ofString "_law_marking")]
def d55 : He.DefD := ⟨("_law_makes", none), "_law_makes", "_law_makes", defArgs st55, defBody st55, defScope st55, [], []⟩
abbrev st56 : Stmt := (top 102)
abbrev nm56 : List Str := [(.ofString "_law_script"), (.ofString "_law_feed_here"), (.ofString "_law_marking"), (.ofString "_law_wide_here"), (.ofString "_law_shapes_here"), (.ofString "_law_sizes_here"), (.ofString "_law_heap"), (.ofString "_law_other"), (.ofString "_law_built"), (.ofString "_law_young"), (.ofString "_law_old"), (.ofString "_law_first"), (.ofString "_law_many"), (.ofString "_law_half")]
abbrev pm56 : List Str := [(.ofString "_law_script")]
def d56 : He.DefD := ⟨("law", none), "law", "law", defArgs st56, defBody st56, defScope st56, [], []⟩
abbrev st57 : Stmt := (inClass (top 72) 0)
abbrev nm57 : List Str := [(.ofString "self"), (.ofString "heap"), (.ofString "settling")]
abbrev pm57 : List Str := [(.ofString "self"), (.ofString "heap"), (.ofString "settling")]
def d57 : He.DefD := ⟨("Moving", some "__init__"), "__init__", "Moving.__init__", defArgs st57, defBody st57, defScope st57, [], []⟩
abbrev st58 : Stmt := (inClass (top 89) 0)
abbrev nm58 : List Str := [(.ofString "self"), (.ofString "shapes"), (.ofString "sizes")]
abbrev pm58 : List Str := [(.ofString "self"), (.ofString "shapes"), (.ofString "sizes")]
def d58 : He.DefD := ⟨("Heap", some "__init__"), "__init__", "Heap.__init__", defArgs st58, defBody st58, defScope st58, [], []⟩
abbrev st59 : Stmt := (inClass (top 89) 1)
abbrev nm59 : List Str := [(.ofString "self"), (.ofString "kind"), (.ofString "slots"), (.ofString "roots"), (.ofString "colour"), (.ofString "address")]
abbrev pm59 : List Str := [(.ofString "self"), (.ofString "kind"), (.ofString "slots"), (.ofString "roots")]
def d59 : He.DefD := ⟨("Heap", some "make"), "make", "Heap.make", defArgs st59, defBody st59, defScope st59, [], []⟩
abbrev st60 : Stmt := (inClass (top 89) 2)
abbrev nm60 : List Str := [(.ofString "self"), (.ofString "address")]
abbrev pm60 : List Str := [(.ofString "self"), (.ofString "address")]
def d60 : He.DefD := ⟨("Heap", some "kind"), "kind", "Heap.kind", defArgs st60, defBody st60, defScope st60, [], []⟩
abbrev st61 : Stmt := (inClass (top 89) 3)
abbrev nm61 : List Str := [(.ofString "self"), (.ofString "address")]
abbrev pm61 : List Str := [(.ofString "self"), (.ofString "address")]
def d61 : He.DefD := ⟨("Heap", some "slots"), "slots", "Heap.slots", defArgs st61, defBody st61, defScope st61, [], []⟩
abbrev st62 : Stmt := (inClass (top 89) 6)
abbrev nm62 : List Str := [(.ofString "self"), (.ofString "address")]
abbrev pm62 : List Str := [(.ofString "self"), (.ofString "address")]
def d62 : He.DefD := ⟨("Heap", some "where"), "where", "Heap.where", defArgs st62, defBody st62, defScope st62, [], []⟩
abbrev st63 : Stmt := (inClass (top 89) 7)
abbrev nm63 : List Str := [(.ofString "self")]
abbrev pm63 : List Str := [(.ofString "self")]
def d63 : He.DefD := ⟨("Heap", some "remembered"), "remembered", "Heap.remembered", defArgs st63, defBody st63, defScope st63, [], []⟩
abbrev st64 : Stmt := (inClass (top 89) 10)
abbrev nm64 : List Str := [(.ofString "self"), (.ofString "half"), (.ofString "young"), (.ofString "middle")]
abbrev pm64 : List Str := [(.ofString "self")]
def d64 : He.DefD := ⟨("Heap", some "counts"), "counts", "Heap.counts", defArgs st64, defBody st64, defScope st64, [], []⟩
abbrev st65 : Stmt := (inClass (top 89) 13)
abbrev nm65 : List Str := [(.ofString "self"), (.ofString "roots")]
abbrev pm65 : List Str := [(.ofString "self"), (.ofString "roots")]
def d65 : He.DefD := ⟨("Heap", some "begin"), "begin", "Heap.begin", defArgs st65, defBody st65, defScope st65, [], []⟩
abbrev st66 : Stmt := (inClass (top 89) 16)
abbrev nm66 : List Str := [(.ofString "self")]
abbrev pm66 : List Str := [(.ofString "self")]
def d66 : He.DefD := ⟨("Heap", some "is_marking"), "is_marking", "Heap.is_marking", defArgs st66, defBody st66, defScope st66, [], []⟩
abbrev st67 : Stmt := (inClass (top 89) 17)
abbrev nm67 : List Str := [(.ofString "self")]
abbrev pm67 : List Str := [(.ofString "self")]
def d67 : He.DefD := ⟨("Heap", some "picture"), "picture", "Heap.picture", defArgs st67, defBody st67, defScope st67, [], []⟩
def B : Base := ⟨[(.ofString "is_integer"), (.ofString "is_shape"), (.ofString "is_shapes"), (.ofString "is_sizes"), (.ofString "is_heap_kind"), (.ofString "is_size"), (.ofString "need_shapes"), (.ofString "need_sizes"), (.ofString "need_kind"), (.ofString "need_size"), (.ofString "head_of"), (.ofString "kind_in"), (.ofString "age_in"), (.ofString "colour_in"), (.ofString "reference_flags"), (.ofString "half_begin"), (.ofString "old_begin"), (.ofString "is_old"), (.ofString "is_young"), (.ofString "room_of"), (.ofString "word_at"), (.ofString "lay_word"), (.ofString "kind_at"), (.ofString "many_at"), (.ofString "colour_at"), (.ofString "paint"), (.ofString "body_of"), (.ofString "flags_at"), (.ofString "reference_slots"), (.ofString "objects_from"), (.ofString "put_behind"), (.ofString "young_objects"), (.ofString "keep_slots"), (.ofString "need_address"), (.ofString "need_roots"), (.ofString "shade"), (.ofString "shade_all"), (.ofString "move"), (.ofString "lead"), (.ofString "lead_slots"), (.ofString "lead_moved"), (.ofString "keep_anew"), (.ofString "moved_by"), (.ofString "picture_of"), (.ofString "begin_whole"), (.ofString "_law_feed"), (.ofString "_law_draw"), (.ofString "_law_one"), (.ofString "_law_same"), (.ofString "_law_wide"), (.ofString "_law_shapes"), (.ofString "_law_sizes"), (.ofString "_law_number"), (.ofString "_law_head"), (.ofString "_law_told"), (.ofString "_law_makes"), (.ofString "law")], [(.ofString "Moving"), (.ofString "Heap")], [(.ofString "sizes"), (.ofString "nursery"), (.ofString "old"), (.ofString "halves"), (.ofString "shapes"), (.ofString "half"), (.ofString "kept"), (.ofString "starts"), (.ofString "grey"), (.ofString "heap"), (.ofString "room"), (.ofString "settling"), (.ofString "first"), (.ofString "marking"), (.ofString "moved"), (.ofString "half_at"), (.ofString "old_at"), (.ofString "fresh"), (.ofString "taken"), (.ofString "kind"), (.ofString "slots"), (.ofString "where"), (.ofString "make"), (.ofString "begin"), (.ofString "picture"), (.ofString "counts"), (.ofString "remembered"), (.ofString "is_marking")], [((.ofString "TEXT"), .int (-3)), ((.ofString "MOST_SLOTS"), .int 1000), ((.ofString "REFERENCES"), .int (-2)), ((.ofString "HEAD"), .int 2), ((.ofString "MOST_ROOTS"), .int 40000), ((.ofString "WHITE"), .int 0), ((.ofString "GREY"), .int 1), ((.ofString "BLACK"), .int 2)]⟩
def r0 : VRow := ⟨f_is_integer, d0, nm0, pm0⟩
def r1 : VRow := ⟨f_is_shape, d1, nm1, pm1⟩
def r2 : VRow := ⟨f_is_shapes, d2, nm2, pm2⟩
def r3 : VRow := ⟨f_is_sizes, d3, nm3, pm3⟩
def r4 : VRow := ⟨f_is_heap_kind, d4, nm4, pm4⟩
def r5 : VRow := ⟨f_is_size, d5, nm5, pm5⟩
def r6 : VRow := ⟨f_need_shapes, d6, nm6, pm6⟩
def r7 : VRow := ⟨f_need_sizes, d7, nm7, pm7⟩
def r8 : VRow := ⟨f_need_kind, d8, nm8, pm8⟩
def r9 : VRow := ⟨f_need_size, d9, nm9, pm9⟩
def r10 : VRow := ⟨f_head_of, d10, nm10, pm10⟩
def r11 : VRow := ⟨f_kind_in, d11, nm11, pm11⟩
def r12 : VRow := ⟨f_age_in, d12, nm12, pm12⟩
def r13 : VRow := ⟨f_colour_in, d13, nm13, pm13⟩
def r14 : VRow := ⟨f_reference_flags, d14, nm14, pm14⟩
def r15 : VRow := ⟨f_half_begin, d15, nm15, pm15⟩
def r16 : VRow := ⟨f_old_begin, d16, nm16, pm16⟩
def r17 : VRow := ⟨f_is_old, d17, nm17, pm17⟩
def r18 : VRow := ⟨f_is_young, d18, nm18, pm18⟩
def r19 : VRow := ⟨f_room_of, d19, nm19, pm19⟩
def r20 : VRow := ⟨f_word_at, d20, nm20, pm20⟩
def r21 : VRow := ⟨f_lay_word, d21, nm21, pm21⟩
def r22 : VRow := ⟨f_kind_at, d22, nm22, pm22⟩
def r23 : VRow := ⟨f_many_at, d23, nm23, pm23⟩
def r24 : VRow := ⟨f_colour_at, d24, nm24, pm24⟩
def r25 : VRow := ⟨f_paint, d25, nm25, pm25⟩
def r26 : VRow := ⟨f_body_of, d26, nm26, pm26⟩
def r27 : VRow := ⟨f_flags_at, d27, nm27, pm27⟩
def r28 : VRow := ⟨f_reference_slots, d28, nm28, pm28⟩
def r29 : VRow := ⟨f_objects_from, d29, nm29, pm29⟩
def r30 : VRow := ⟨f_put_behind, d30, nm30, pm30⟩
def r31 : VRow := ⟨f_young_objects, d31, nm31, pm31⟩
def r32 : VRow := ⟨f_keep_slots, d32, nm32, pm32⟩
def r33 : VRow := ⟨f_need_address, d33, nm33, pm33⟩
def r34 : VRow := ⟨f_need_roots, d34, nm34, pm34⟩
def r35 : VRow := ⟨f_shade, d35, nm35, pm35⟩
def r36 : VRow := ⟨f_shade_all, d36, nm36, pm36⟩
def r37 : VRow := ⟨f_move, d37, nm37, pm37⟩
def r38 : VRow := ⟨f_lead, d38, nm38, pm38⟩
def r39 : VRow := ⟨f_lead_slots, d39, nm39, pm39⟩
def r40 : VRow := ⟨f_lead_moved, d40, nm40, pm40⟩
def r41 : VRow := ⟨f_keep_anew, d41, nm41, pm41⟩
def r42 : VRow := ⟨f_moved_by, d42, nm42, pm42⟩
def r43 : VRow := ⟨f_picture_of, d43, nm43, pm43⟩
def r44 : VRow := ⟨f_begin_whole, d44, nm44, pm44⟩
def r45 : VRow := ⟨f_l_feed, d45, nm45, pm45⟩
def r46 : VRow := ⟨f_l_draw, d46, nm46, pm46⟩
def r47 : VRow := ⟨f_l_one, d47, nm47, pm47⟩
def r48 : VRow := ⟨f_l_same, d48, nm48, pm48⟩
def r49 : VRow := ⟨f_l_wide, d49, nm49, pm49⟩
def r50 : VRow := ⟨f_l_shapes, d50, nm50, pm50⟩
def r51 : VRow := ⟨f_l_sizes, d51, nm51, pm51⟩
def r52 : VRow := ⟨f_l_number, d52, nm52, pm52⟩
def r53 : VRow := ⟨f_l_head, d53, nm53, pm53⟩
def r54 : VRow := ⟨f_l_told, d54, nm54, pm54⟩
def r55 : VRow := ⟨f_l_makes, d55, nm55, pm55⟩
def r56 : VRow := ⟨f_law, d56, nm56, pm56⟩
def r57 : VRow := ⟨f_Moving_init, d57, nm57, pm57⟩
def r58 : VRow := ⟨f_Heap_init, d58, nm58, pm58⟩
def r59 : VRow := ⟨f_Heap_make, d59, nm59, pm59⟩
def r60 : VRow := ⟨f_Heap_kind, d60, nm60, pm60⟩
def r61 : VRow := ⟨f_Heap_slots, d61, nm61, pm61⟩
def r62 : VRow := ⟨f_Heap_where, d62, nm62, pm62⟩
def r63 : VRow := ⟨f_Heap_remembered, d63, nm63, pm63⟩
def r64 : VRow := ⟨f_Heap_counts, d64, nm64, pm64⟩
def r65 : VRow := ⟨f_Heap_begin, d65, nm65, pm65⟩
def r66 : VRow := ⟨f_Heap_is_marking, d66, nm66, pm66⟩
def r67 : VRow := ⟨f_Heap_picture, d67, nm67, pm67⟩
def rows : List VRow := [r0, r1, r2, r3, r4, r5, r6, r7, r8, r9, r10, r11, r12, r13, r14, r15, r16, r17, r18, r19, r20, r21, r22, r23, r24, r25, r26, r27, r28, r29, r30, r31, r32, r33, r34, r35, r36, r37, r38, r39, r40, r41, r42, r43, r44, r45, r46, r47, r48, r49, r50, r51, r52, r53, r54, r55, r56, r57, r58, r59, r60, r61, r62, r63, r64, r65, r66, r67]
theorem rowsOk : rows.all (rowOk B) = true := by decide +kernel
theorem tab : tabOk rows B P = true := by decide +kernel
theorem bd0 : RowB r0 := fun _ _ _ _ _ _ us hl => match us, hl with | [_], _ => rfl
theorem bd1 : RowB r1 := fun _ _ _ _ _ _ us hl => match us, hl with | [_], _ => rfl
theorem bd2 : RowB r2 := fun _ _ _ _ _ _ us hl => match us, hl with | [_], _ => rfl
theorem bd3 : RowB r3 := fun _ _ _ _ _ _ us hl => match us, hl with | [_], _ => rfl
theorem bd4 : RowB r4 := fun _ _ _ _ _ _ us hl => match us, hl with | [_, _], _ => rfl
theorem bd5 : RowB r5 := fun _ _ _ _ _ _ us hl => match us, hl with | [_, _, _], _ => rfl
theorem bd6 : RowB r6 := fun _ _ _ _ _ _ us hl => match us, hl with | [_], _ => rfl
theorem bd7 : RowB r7 := fun _ _ _ _ _ _ us hl => match us, hl with | [_], _ => rfl
theorem bd8 : RowB r8 := fun _ _ _ _ _ _ us hl => match us, hl with | [_, _], _ => rfl
theorem bd9 : RowB r9 := fun _ _ _ _ _ _ us hl => match us, hl with | [_, _, _], _ => rfl
theorem bd10 : RowB r10 := fun _ _ _ _ _ _ us hl => match us, hl with | [_, _, _], _ => rfl
theorem bd11 : RowB r11 := fun _ _ _ _ _ _ us hl => match us, hl with | [_], _ => rfl
theorem bd12 : RowB r12 := fun _ _ _ _ _ _ us hl => match us, hl with | [_], _ => rfl
theorem bd13 : RowB r13 := fun _ _ _ _ _ _ us hl => match us, hl with | [_], _ => rfl
theorem bd14 : RowB r14 := fun _ _ _ _ _ _ us hl => match us, hl with | [_, _, _], _ => rfl
theorem bd15 : RowB r15 := fun _ _ _ _ _ _ us hl => match us, hl with | [_, _], _ => rfl
theorem bd16 : RowB r16 := fun _ _ _ _ _ _ us hl => match us, hl with | [_], _ => rfl
theorem bd17 : RowB r17 := fun _ _ _ _ _ _ us hl => match us, hl with | [_, _], _ => rfl
theorem bd18 : RowB r18 := fun _ _ _ _ _ _ us hl => match us, hl with | [_, _], _ => rfl
theorem bd19 : RowB r19 := fun _ _ _ _ _ _ us hl => match us, hl with | [_, _], _ => rfl
theorem bd20 : RowB r20 := fun _ _ _ _ _ _ us hl => match us, hl with | [_, _], _ => rfl
theorem bd21 : RowB r21 := fun _ _ _ _ _ _ us hl => match us, hl with | [_, _, _], _ => rfl
theorem bd22 : RowB r22 := fun _ _ _ _ _ _ us hl => match us, hl with | [_, _], _ => rfl
theorem bd23 : RowB r23 := fun _ _ _ _ _ _ us hl => match us, hl with | [_, _], _ => rfl
theorem bd24 : RowB r24 := fun _ _ _ _ _ _ us hl => match us, hl with | [_, _], _ => rfl
theorem bd25 : RowB r25 := fun _ _ _ _ _ _ us hl => match us, hl with | [_, _, _], _ => rfl
theorem bd26 : RowB r26 := fun _ _ _ _ _ _ us hl => match us, hl with | [_, _], _ => rfl
theorem bd27 : RowB r27 := fun _ _ _ _ _ _ us hl => match us, hl with | [_, _], _ => rfl
theorem bd28 : RowB r28 := fun _ _ _ _ _ _ us hl => match us, hl with | [_, _], _ => rfl
theorem bd29 : RowB r29 := fun _ _ _ _ _ _ us hl => match us, hl with | [_, _], _ => rfl
theorem bd30 : RowB r30 := fun _ _ _ _ _ _ us hl => match us, hl with | [_, _, _, _, _, _], _ => rfl
theorem bd31 : RowB r31 := fun _ _ _ _ _ _ us hl => match us, hl with | [_], _ => rfl
theorem bd32 : RowB r32 := fun _ _ _ _ _ _ us hl => match us, hl with | [_, _], _ => rfl
theorem bd33 : RowB r33 := fun _ _ _ _ _ _ us hl => match us, hl with | [_, _], _ => rfl
theorem bd34 : RowB r34 := fun _ _ _ _ _ _ us hl => match us, hl with | [_, _], _ => rfl
theorem bd35 : RowB r35 := fun _ _ _ _ _ _ us hl => match us, hl with | [_, _], _ => rfl
theorem bd36 : RowB r36 := fun _ _ _ _ _ _ us hl => match us, hl with | [_, _], _ => rfl
theorem bd37 : RowB r37 := fun _ _ _ _ _ _ us hl => match us, hl with | [_, _], _ => rfl
theorem bd38 : RowB r38 := fun _ _ _ _ _ _ us hl => match us, hl with | [_, _], _ => rfl
theorem bd39 : RowB r39 := fun _ _ _ _ _ _ us hl => match us, hl with | [_, _], _ => rfl
theorem bd40 : RowB r40 := fun _ _ _ _ _ _ us hl => match us, hl with | [_], _ => rfl
theorem bd41 : RowB r41 := fun _ _ _ _ _ _ us hl => match us, hl with | [_, _], _ => rfl
theorem bd42 : RowB r42 := fun _ _ _ _ _ _ us hl => match us, hl with | [_, _, _], _ => rfl
theorem bd43 : RowB r43 := fun _ _ _ _ _ _ us hl => match us, hl with | [_], _ => rfl
theorem bd44 : RowB r44 := fun _ _ _ _ _ _ us hl => match us, hl with | [_, _], _ => rfl
theorem bd45 : RowB r45 := fun _ _ _ _ _ _ us hl => match us, hl with | [_, _], _ => rfl
theorem bd46 : RowB r46 := fun _ _ _ _ _ _ us hl => match us, hl with | [_, _], _ => rfl
theorem bd47 : RowB r47 := fun _ _ _ _ _ _ us hl => match us, hl with | [_, _], _ => rfl
theorem bd48 : RowB r48 := fun _ _ _ _ _ _ us hl => match us, hl with | [_, _], _ => rfl
theorem bd49 : RowB r49 := fun _ _ _ _ _ _ us hl => match us, hl with | [_], _ => rfl
theorem bd50 : RowB r50 := fun _ _ _ _ _ _ us hl => match us, hl with | [_], _ => rfl
theorem bd51 : RowB r51 := fun _ _ _ _ _ _ us hl => match us, hl with | [_], _ => rfl
theorem bd52 : RowB r52 := fun _ _ _ _ _ _ us hl => match us, hl with | [_, _], _ => rfl
theorem bd53 : RowB r53 := fun _ _ _ _ _ _ us hl => match us, hl with | [_, _, _], _ => rfl
theorem bd54 : RowB r54 := fun _ _ _ _ _ _ us hl => match us, hl with | [_, _, _], _ => rfl
theorem bd55 : RowB r55 := fun _ _ _ _ _ _ us hl => match us, hl with | [_, _, _, _, _], _ => rfl
theorem bd56 : RowB r56 := fun _ _ _ _ _ _ us hl => match us, hl with | [_], _ => rfl
theorem bd57 : RowB r57 := fun _ _ _ _ _ _ us hl => match us, hl with | [_, _, _], _ => rfl
theorem bd58 : RowB r58 := fun _ _ _ _ _ _ us hl => match us, hl with | [_, _, _], _ => rfl
theorem bd59 : RowB r59 := fun _ _ _ _ _ _ us hl => match us, hl with | [_, _, _, _], _ => rfl
theorem bd60 : RowB r60 := fun _ _ _ _ _ _ us hl => match us, hl with | [_, _], _ => rfl
theorem bd61 : RowB r61 := fun _ _ _ _ _ _ us hl => match us, hl with | [_, _], _ => rfl
theorem bd62 : RowB r62 := fun _ _ _ _ _ _ us hl => match us, hl with | [_, _], _ => rfl
theorem bd63 : RowB r63 := fun _ _ _ _ _ _ us hl => match us, hl with | [_], _ => rfl
theorem bd64 : RowB r64 := fun _ _ _ _ _ _ us hl => match us, hl with | [_], _ => rfl
theorem bd65 : RowB r65 := fun _ _ _ _ _ _ us hl => match us, hl with | [_, _], _ => rfl
theorem bd66 : RowB r66 := fun _ _ _ _ _ _ us hl => match us, hl with | [_], _ => rfl
theorem bd67 : RowB r67 := fun _ _ _ _ _ _ us hl => match us, hl with | [_], _ => rfl
theorem rowsB : AllB rows := ⟨bd0, ⟨bd1, ⟨bd2, ⟨bd3, ⟨bd4, ⟨bd5, ⟨bd6, ⟨bd7, ⟨bd8, ⟨bd9, ⟨bd10, ⟨bd11, ⟨bd12, ⟨bd13, ⟨bd14, ⟨bd15, ⟨bd16, ⟨bd17, ⟨bd18, ⟨bd19, ⟨bd20, ⟨bd21, ⟨bd22, ⟨bd23, ⟨bd24, ⟨bd25, ⟨bd26, ⟨bd27, ⟨bd28, ⟨bd29, ⟨bd30, ⟨bd31, ⟨bd32, ⟨bd33, ⟨bd34, ⟨bd35, ⟨bd36, ⟨bd37, ⟨bd38, ⟨bd39, ⟨bd40, ⟨bd41, ⟨bd42, ⟨bd43, ⟨bd44, ⟨bd45, ⟨bd46, ⟨bd47, ⟨bd48, ⟨bd49, ⟨bd50, ⟨bd51, ⟨bd52, ⟨bd53, ⟨bd54, ⟨bd55, ⟨bd56, ⟨bd57, ⟨bd58, ⟨bd59, ⟨bd60, ⟨bd61, ⟨bd62, ⟨bd63, ⟨bd64, ⟨bd65, ⟨bd66, ⟨bd67, trivial⟩⟩⟩⟩⟩⟩⟩⟩⟩⟩⟩⟩⟩⟩⟩⟩⟩⟩⟩⟩⟩⟩⟩⟩⟩⟩⟩⟩⟩⟩⟩⟩⟩⟩⟩⟩⟩⟩⟩⟩⟩⟩⟩⟩⟩⟩⟩⟩⟩⟩⟩⟩⟩⟩⟩⟩⟩⟩⟩⟩⟩⟩⟩⟩⟩⟩⟩⟩
abbrev R : PySem.W.OpenRow := PySem.W.OpenLaw.row rw
def fa : List He.Fa := faOf B P
def dfs : List He.DefD := rows.map VRow.d
abbrev hk : PySem.W.Hook := hookV (B.fns ++ B.cls) fa dfs
def ob (s : PySem.W.SharedT) : He.AlD := obsV (B.fns ++ B.cls) fa dfs (HandSHeadRun.getT s)
theorem ob_eq (s : PySem.W.SharedT) : ob s = hk.obs s.abs := obsV_eq (HandSHeadRun.getT_eq s)
def loose : List Str := ([(.ofString "_wall"), (.ofString "MachineError"), (.ofString "BadShapes"), (.ofString "BadKind"), (.ofString "BadSize"), (.ofString "BadValue"), (.ofString "BadSizes"), (.ofString "BadRoots"), (.ofString "BadAddress"), (.ofString "BadSlot"), (.ofString "Marking"), (.ofString "HALF"), (.ofString "is_integer"), (.ofString "is_word32"), (.ofString "REFERENCES"), (.ofString "TEXT"), (.ofString "WHITE"), (.ofString "GREY"), (.ofString "BLACK"), (.ofString "HEAD"), (.ofString "MOST_SLOTS"), (.ofString "is_shape"), (.ofString "is_shapes"), (.ofString "is_sizes"), (.ofString "is_heap_kind"), (.ofString "is_size"), (.ofString "need_shapes"), (.ofString "need_sizes"), (.ofString "need_kind"), (.ofString "need_size")] : List Str) ++ ([(.ofString "head_of"), (.ofString "kind_in"), (.ofString "age_in"), (.ofString "colour_in"), (.ofString "is_reference"), (.ofString "reference_flags"), (.ofString "MOST_ROOTS"), (.ofString "half_begin"), (.ofString "old_begin"), (.ofString "is_old"), (.ofString "is_young"), (.ofString "room_of"), (.ofString "word_at"), (.ofString "lay_word"), (.ofString "kind_at"), (.ofString "many_at"), (.ofString "colour_at"), (.ofString "paint"), (.ofString "body_of"), (.ofString "flags_at"), (.ofString "reference_slots"), (.ofString "objects_from"), (.ofString "put_behind"), (.ofString "young_objects"), (.ofString "index_objects"), (.ofString "keep_slots"), (.ofString "index_kept"), (.ofString "need_address"), (.ofString "need_slot"), (.ofString "need_value")] : List Str) ++ ([(.ofString "need_roots"), (.ofString "shade"), (.ofString "shade_all"), (.ofString "row_empty"), (.ofString "step"), (.ofString "work_all"), (.ofString "Moving"), (.ofString "move"), (.ofString "lead"), (.ofString "lead_slots"), (.ofString "lead_moved"), (.ofString "keep_anew"), (.ofString "moved_by"), (.ofString "picture_of"), (.ofString "new_places"), (.ofString "led"), (.ofString "slide"), (.ofString "begin_whole"), (.ofString "end_whole"), (.ofString "Heap"), (.ofString "_law_feed"), (.ofString "_law_draw"), (.ofString "_law_one"), (.ofString "_law_same"), (.ofString "_law_wide"), (.ofString "_law_shapes"), (.ofString "_law_sizes"), (.ofString "_law_number"), (.ofString "_law_head"), (.ofString "_law_told")] : List Str) ++ ([(.ofString "_law_makes")] : List Str)
theorem run (w : World) : HandSHeadRun.RunEq R (PySem.W.view R.prog [102]) hk ob 6000 loose w := by
  intro os
  kernel_rfl
theorem facts {P' : Program} {w : World} {K : PySem.W.Frag} {h : Heap} {mg : Str → Option Value} {f : Addr} (X : K.In h) (G : h.Ns mainGlobals mg) (hfa : mg ("law" : Str) = some (.ref f)) (c : He.SaysD fa dfs K) :
    ∃ fd : FuncData, (∀ (s : Shared) (v : Value), BindsTo s fd ⟨[v], []⟩ [("_law_script", v)]) ∧ ∀ base : Heap, K.In base → base.Ns mainGlobals mg → FnOk P' w K mg base CX0 32 f fd ["_law_script"] (spF (gOf B K) K (VI.callAt P 16 56)) := by
  have O := prog_ok (P := P) rfl tab rowsOk rowsB X G c
  obtain ⟨fd, hb, hF⟩ := law_fn (f := 56) (d := 15) (r := r56) O rfl rfl rowsOk rowsB c
  have e := hfa.symm.trans (O.fns 56 "law" rfl).2.1
  cases e
  exact ⟨fd, fun s v => hb s [v] rfl, fun base _ _ => hF _ _ _⟩

end KL
end

set_option maxRecDepth 1000000
set_option maxHeartbeats 0
open PySem PySem.W PySem.Calls PyProof.Rows
theorem PySem.Challenge.cw_movedrun_k38_objects_are_words_holds : PySem.Challenge.rw_movedrun_k38_objects_are_words.Holds := by
  w_on; o_law
  refine HandSHeadRun.head_any (r := OpenLaw.row PySem.Challenge.rw_movedrun_k38_objects_are_words) (q := view (OpenLaw.row PySem.Challenge.rw_movedrun_k38_objects_are_words).prog [102]) (H := KL.hk) (ob := KL.ob) (M := 6000) (loose := KL.loose) (d := HandSHeadRun.topDef (OpenLaw.row PySem.Challenge.rw_movedrun_k38_objects_are_words).prog 102) (kwd := []) KL.ob_eq
    (by kernel_rfl) (fun s => by kernel_rfl) KL.run (by kernel_rfl) (by kernel_rfl) (by kernel_rfl) (by rfl) (by first | assumption | decide +kernel) (by decide +kernel) ⟨rfl, rfl, rfl, rfl, rfl, by decide +kernel⟩ ?hw ?hc
  case hw => w_witness2
  case hc =>
    refine L2.walk_ofE (l := PySem.Challenge.rw_movedrun_k38_objects_are_words) (n := 63) (k := 32) (x := "_law_script") (CX := L2.CX0) rfl (by decide) (by kernel_rfl) ⟨rfl, by decide, by decide⟩ ?F (fun _ _ _ _ z => z)
    intro w mg fa h Y G hmg0
    obtain ⟨K', KX, c⟩ := Y
    have hmg : mg ("law" : PySem.Str) = some (.ref fa) := by
      have e : (HandSHeadRun.topDef (OpenLaw.row PySem.Challenge.rw_movedrun_k38_objects_are_words).prog 102).name = ("law" : PySem.Str) := by kernel_rfl
      rw [← e]
      exact hmg0
    obtain ⟨fd, hb, hF⟩ := KL.facts (P' := (PySem.Challenge.rw_movedrun_k38_objects_are_words).prog) (w := w) KX G hmg c
    refine ⟨K', fd, _, KX, hb, fun H a ns hl _ hS => ?_, hF⟩
    obtain ⟨st', e⟩ := K.plain ns hl
    exact VIS.law_sp e hS
