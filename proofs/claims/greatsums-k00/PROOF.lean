import PyProof.Rows.All
import Wide.All
import OpenK.AllK
import Wide.FinOn
import HandS.Base
import HandS.Call
import HandS.List
import HandS.Comp
import HandS.Dict
import HandS.Iter
import HandS.Text
import HandS.Exc
import HandS.ExcOwn
import HandS.TryOnly
import HandS.TryMany
import HandS.Words
import HandS.WordsList
import HandS.WordsExc
import HandS.Defaults
import HandS.Flow
import HandS.Style
import HandS.Wide
import HandS.IsInst
import HandS.Deep
import HandS.TupAny
import HandS.TupMul
import HandS.Conv
import HandS.SortInts
import HandS.SetFor
import HandS.Small
import HandS.Zip
import HandS.More
import HandS.CallLocal
import KE.KStateDown
import HandS.Ends
import HandS.Head0
import HandS.Head1
import HandS.Head2
import HandS.HeadEnd
import HandS.HeadHook1
import HandS.HeadHook2
import HandS.HeadHook4
import PySem.Challenge.RW_greatsums_k00_whole_fractions_reckoned
set_option Elab.async false
set_option linter.all false
section
set_option Elab.async false
set_option linter.all false
set_option maxRecDepth 100000
/-! PL: a small language of Python's pure part: values, syntax, a total evaluator. -/
namespace PL
abbrev Str := PySem.Str
/-- a value: tuples and lists that nothing changes are inlined; ref n: the list (dict) in cell n; fn f: a def -/
inductive D where
  | non | bl (b : Bool) | int (i : Int) | str (s : Str)
  | tup (xs : List D) | fl (xs : List D) | ref (n : Nat) | fn (f : Nat)
  /-- the script -/
  | sc (is : List Int)
mutual
def D.dec : (a b : D) → Decidable (a = b)
  | .non, b => match b with
    | .non => isTrue rfl
    | .bl _ | .int _ | .str _ | .tup _ | .fl _ | .ref _ | .fn _ | .sc _ => isFalse (fun h => by cases h)
  | .bl x, b => match b with
    | .bl y => if e : x = y then isTrue (by rw [e]) else isFalse (fun h => by cases h; exact e rfl)
    | .non | .int _ | .str _ | .tup _ | .fl _ | .ref _ | .fn _ | .sc _ => isFalse (fun h => by cases h)
  | .int x, b => match b with
    | .int y => if e : x = y then isTrue (by rw [e]) else isFalse (fun h => by cases h; exact e rfl)
    | .non | .bl _ | .str _ | .tup _ | .fl _ | .ref _ | .fn _ | .sc _ => isFalse (fun h => by cases h)
  | .str x, b => match b with
    | .str y => if e : x = y then isTrue (by rw [e]) else isFalse (fun h => by cases h; exact e rfl)
    | .non | .bl _ | .int _ | .tup _ | .fl _ | .ref _ | .fn _ | .sc _ => isFalse (fun h => by cases h)
  | .tup x, b => match b with
    | .tup y => match D.decL x y with
      | isTrue e => isTrue (by rw [e])
      | isFalse e => isFalse (fun h => by cases h; exact e rfl)
    | .non | .bl _ | .int _ | .str _ | .fl _ | .ref _ | .fn _ | .sc _ => isFalse (fun h => by cases h)
  | .fl x, b => match b with
    | .fl y => match D.decL x y with
      | isTrue e => isTrue (by rw [e])
      | isFalse e => isFalse (fun h => by cases h; exact e rfl)
    | .non | .bl _ | .int _ | .str _ | .tup _ | .ref _ | .fn _ | .sc _ => isFalse (fun h => by cases h)
  | .ref x, b => match b with
    | .ref y => if e : x = y then isTrue (by rw [e]) else isFalse (fun h => by cases h; exact e rfl)
    | .non | .bl _ | .int _ | .str _ | .tup _ | .fl _ | .fn _ | .sc _ => isFalse (fun h => by cases h)
  | .fn x, b => match b with
    | .fn y => if e : x = y then isTrue (by rw [e]) else isFalse (fun h => by cases h; exact e rfl)
    | .non | .bl _ | .int _ | .str _ | .tup _ | .fl _ | .ref _ | .sc _ => isFalse (fun h => by cases h)
  | .sc x, b => match b with
    | .sc y => if e : x = y then isTrue (by rw [e]) else isFalse (fun h => by cases h; exact e rfl)
    | .non | .bl _ | .int _ | .str _ | .tup _ | .fl _ | .ref _ | .fn _ => isFalse (fun h => by cases h)
def D.decL : (a b : List D) → Decidable (a = b)
  | [], b => match b with
    | [] => isTrue rfl
    | _ :: _ => isFalse (fun h => by cases h)
  | x :: xs, b => match b with
    | [] => isFalse (fun h => by cases h)
    | y :: ys => match D.dec x y with
      | isFalse e => isFalse (fun h => by cases h; exact e rfl)
      | isTrue e => match D.decL xs ys with
        | isFalse e' => isFalse (fun h => by cases h; exact e' rfl)
        | isTrue e' => isTrue (by rw [e, e'])
end
instance : DecidableEq D := D.dec
/-- what stands in a heap cell -/
inductive Cell where
  | lst (xs : List D)
  | dic (kvs : List (D × D))
  | obj (c : Nat) (fs : List (Str × D))
  deriving DecidableEq
abbrev Hpp := List Cell
abbrev Env := List (Option D)
/-- an expression's outcome: a value; an exception of the class numbered c; nothing that we tell -/
inductive R (α : Type) where
  | ok (a : α) (h : Hpp)
  | er (c : Nat) (h : Hpp)
  | no
def R.bind {α β : Type} (r : R α) (f : α → Hpp → R β) : R β := match r with
  | .ok a h => f a h
  | .er c h => .er c h
  | .no => .no
@[simp] theorem R.bind_ok {α β : Type} (a : α) (h : Hpp) (f : α → Hpp → R β) : (R.ok a h).bind f = f a h := rfl
@[simp] theorem R.bind_er {α β : Type} (c : Nat) (h : Hpp) (f : α → Hpp → R β) : (R.er c h : R α).bind f = .er c h := rfl
@[simp] theorem R.bind_no {α β : Type} (f : α → Hpp → R β) : (R.no : R α).bind f = .no := rfl
/-- a statement's outcome -/
inductive O where
  | nx (ρ : Env) (h : Hpp)
  | rt (d : D) (h : Hpp)
  | bk (ρ : Env) (h : Hpp)
  | ct (ρ : Env) (h : Hpp)
  | er (c : Nat) (ρ : Env) (h : Hpp)
  | no
inductive Bop where
  | add | sub | mul | fdiv | mod
  deriving DecidableEq
inductive Cop where
  | eq | ne | lt | le | gt | ge
  deriving DecidableEq
/-- built-in functions of values -/
inductive Bi where
  | len | abs | int | all | any | tuple | list | sum | max | min | sorted | dict
  deriving DecidableEq
/-- methods of lists and dicts -/
inductive Mt where
  | append | extend | insert | pop | remove | index | count | get
  deriving DecidableEq
inductive Ty where
  | int | bool | str | tuple | list
  deriving DecidableEq
/-- where a for stores: names, nested -/
inductive Tg where
  | nil
  | name (i : Nat)
  | tup (ts : Tg)
  | cons (t ts : Tg)
mutual
inductive E where
  | cst (d : D)
  | var (i : Nat)
  | glb (x : Str) (d : D)
  | tup (es : Es)
  | lst (th : Bool) (es : Es)
  | bin (th : Bool) (op : Bop) (a b : E)
  | neg (a : E)
  | not (a : E)
  | and (a b : E)
  | or (a b : E)
  | cmp (op : Cop) (a b : E)
  | isN (ng : Bool) (a : E)
  | inn (ng : Bool) (a b : E)
  | chain (o1 o2 : Cop) (a b c : E)
  | ite (c a b : E)
  | call (f : Nat) (es : Es)
  | callv (i : Nat) (es : Es)
  | bi (b : Bi) (th : Bool) (es : Es)
  | conv (b : Bi) (th : Bool) (it : Itr)
  | isi (a : E) (ts : List Ty)
  | mth (m : Mt) (o : E) (es : Es)
  | idx (a b : E)
  | sl (th : Bool) (a : E) (lo hi : Es)
  | rev (th : Bool) (a : E)
  | comp (th : Bool) (elt : E) (tg : Tg) (it : Itr) (cs : Es) (own : List Nat)
  | comp2 (th : Bool) (elt : E) (tg : Tg) (it : Itr) (cs : Es) (tg1 : Tg) (it1 : Itr) (cs1 : Es) (own : List Nat)
  | dic (ks vs : Es)
inductive Es where
  | nil
  | cons (e : E) (es : Es)
inductive Itr where
  | of (e : E)
  | range1 (a : E)
  | range2 (a b : E)
  | range3 (a b c : E)
  | enum (e : E)
  | zip (a b : E)
end
inductive Lv where
  | nil
  | name (i : Nat)
  | tup (ts : Lv)
  | cons (t ts : Lv)
  | sub (a b : E)
mutual
inductive S where
  | exp (e : E)
  | asg (t : Lv) (e : E)
  | aug (i : Nat) (op : Bop) (e : E)
  | augs (a b : E) (op : Bop) (e : E)
  | iff (c : E) (a b : Ss)
  | whl (c : E) (b : Ss)
  | for_ (tg : Tg) (it : Itr) (b : Ss)
  | ret (e : E)
  | retn
  | raise (c : Nat)
  | tr (b : Ss) (hs : Hs)
  | pass
  | cont
  | brk
inductive Ss where
  | nil
  | cons (s : S) (ss : Ss)
inductive Hs where
  | nil
  | cons (c : Nat) (d : D) (hs : Hs)
end
def Lv.len : Lv → Nat
  | .cons _ ts => ts.len + 1
  | _ => 0
/-! ### values -/
def line : Nat := 16777216
def seqOf (d : D) (h : Hpp) : Option (List D) := match d with
  | .tup xs => some xs
  | .fl xs => some xs
  | .ref n => match h[n]? with
    | some (.lst xs) => some xs
    | _ => none
  | .sc is => some (is.map D.int)
  | _ => none
def lstOf (d : D) (h : Hpp) : Option (List D) := match d with
  | .fl xs => some xs
  | .ref n => match h[n]? with
    | some (.lst xs) => some xs
    | _ => none
  | _ => none
/-- .. of a list, the script too -/
def lsOf (d : D) (h : Hpp) : Option (List D) := match d with
  | .sc is => some (is.map D.int)
  | d => lstOf d h
/-- a new list: in a cell of its own, or as a value -/
def new (th : Bool) (xs : List D) (h : Hpp) : R D := match th with
  | true => .ok (.ref h.length) (h ++ [.lst xs])
  | false => .ok (.fl xs) h
def truthy (d : D) (h : Hpp) : Option Bool := match d with
  | .non => some false
  | .bl b => some b
  | .int i => some (decide (i ≠ 0))
  | .str s => if s.length ≤ line then some (decide (s.length ≠ 0)) else none
  | .tup xs => some (!xs.isEmpty)
  | .fl xs => some (!xs.isEmpty)
  | .ref n => match h[n]? with
    | some (.lst xs) => some (!xs.isEmpty)
    | _ => none
  | .fn _ => none
  | .sc _ => none
/-- the place of an index in a row of n -/
def ixN (n : Nat) (i : Int) : Option Nat := if 0 ≤ i then (if i < n then some i.toNat else none) else if -(n : Int) ≤ i then some (i + n).toNat else none
def atI {α : Type} (xs : List α) (i : Int) : Option α := match ixN xs.length i with
  | some j => xs[j]?
  | none => none
/-- a slice's end -/
def clip (n : Nat) (i : Int) : Nat := if i < 0 then (if i + n < 0 then 0 else (i + n).toNat) else if i < n then i.toNat else n
def cut {α : Type} (xs : List α) (lo hi : Option Int) : List α :=
  let a := match lo with
    | some i => clip xs.length i
    | none => 0
  let b := match hi with
    | some i => clip xs.length i
    | none => xs.length
  (xs.drop a).take (b - a)
mutual
/-- flat enough, and no cells, no defs: to be compared -/
def fit : Nat → D → Bool
  | _, .non => true
  | _, .bl _ => true
  | _, .int _ => true
  | _, .str s => PySem.PyData.strOk s
  | 0, .tup _ => false
  | 0, .fl _ => false
  | k + 1, .tup xs => fitL k xs
  | k + 1, .fl xs => fitL k xs
  | _, .ref _ => false
  | _, .fn _ => false
  | _, .sc _ => false
def fitL : Nat → List D → Bool
  | _, [] => true
  | k, x :: xs => fit k x && fitL k xs
end
mutual
/-- Python's == -/
def deq : D → D → Bool
  | .non, .non => true
  | .bl a, .bl b => a == b
  | .bl a, .int j => (if a then 1 else 0) == j
  | .int i, .bl b => i == (if b then 1 else 0)
  | .int i, .int j => i == j
  | .str x, .str y => x == y
  | .tup xs, .tup ys => deqL xs ys
  | .fl xs, .fl ys => deqL xs ys
  | _, _ => false
def deqL : List D → List D → Bool
  | [], [] => true
  | x :: xs, y :: ys => deq x y && deqL xs ys
  | _, _ => false
end
/-- a cell's list as a value -/
def res (d : D) (h : Hpp) : D := match d with
  | .ref n => match h[n]? with
    | some (.lst xs) => .fl xs
    | _ => .ref n
  | d => d
def pyEq (x y : D) (h : Hpp) : Option Bool := if fit 60 (res x h) && fit 60 (res y h) then some (deq (res x h) (res y h)) else none
def mulOk (a b : Int) : Bool := decide (a.natAbs < 2 ^ 64) || decide (b.natAbs < 2 ^ 64) || decide (a.natAbs.log2 + b.natAbs.log2 < 1000000)
def divOk (b : Int) : Bool := decide (b ≠ 0) && decide (b.natAbs.log2 < 9000)
def opt {α : Type} (o : Option α) (h : Hpp) : R α := match o with
  | some a => .ok a h
  | none => .no
@[simp] theorem opt_some {α : Type} (a : α) (h : Hpp) : opt (some a) h = .ok a h := rfl
@[simp] theorem opt_none {α : Type} (h : Hpp) : opt (none : Option α) h = .no := rfl
def bopL (op : Bop) (th : Bool) (x y : D) (h : Hpp) : R D := match op with
  | .add => match lstOf x h, lstOf y h with
    | some xs, some ys => if xs.length + ys.length ≤ line then new th (xs ++ ys) h else .no
    | _, _ => .no
  | .mul => match lstOf x h, y with
    | some xs, .int k => if -(2 ^ 63) ≤ k ∧ k < 2 ^ 63 ∧ xs.length * k.toNat ≤ line then new th (List.replicate k.toNat xs).flatten h else .no
    | _, _ => .no
  | _ => .no
def bop (op : Bop) (th : Bool) (x y : D) (h : Hpp) : R D := match x, y with
  | .int a, .int b => match op with
    | .add => .ok (.int (a + b)) h
    | .sub => .ok (.int (a - b)) h
    | .mul => if mulOk a b then .ok (.int (a * b)) h else .no
    | .fdiv => if divOk b then .ok (.int (a.fdiv b)) h else .no
    | .mod => if b ≠ 0 then .ok (.int (a.fmod b)) h else .no
  | .tup xs, .tup ys => match op with
    | .add => if xs.length + ys.length ≤ line then .ok (.tup (xs ++ ys)) h else .no
    | _ => .no
  | .tup xs, .int k => match op with
    | .mul => if 2 ≤ k ∧ k ≤ 1000 ∧ xs.length ≤ 1000 ∧ xs.isEmpty = false then .ok (.tup (List.replicate k.toNat xs).flatten) h else .no
    | _ => .no
  | .str a, .str b => match op with
    | .add => if a.length + b.length ≤ line then .ok (.str (a ++ b)) h else .no
    | _ => .no
  | _, _ => bopL op th x y h
def lexLt : List Int → List Int → Bool
  | [], [] => false
  | [], _ :: _ => true
  | _ :: _, [] => false
  | a :: as, b :: bs => if a = b then lexLt as bs else decide (a < b)
def intsOf : List D → Option (List Int)
  | [] => some []
  | .int i :: r => (intsOf r).map (i :: ·)
  | _ :: _ => none
def cop (op : Cop) (x y : D) (h : Hpp) : Option Bool := match op with
  | .eq => pyEq x y h
  | .ne => (pyEq x y h).map (!·)
  | .lt => match x, y with
    | .int a, .int b => some (decide (a < b))
    | .tup xs, .tup ys => match intsOf xs, intsOf ys with
      | some as, some bs => some (lexLt as bs)
      | _, _ => none
    | _, _ => none
  | .le => match x, y with
    | .int a, .int b => some (decide (a ≤ b))
    | _, _ => none
  | .gt => match x, y with
    | .int a, .int b => some (decide (a > b))
    | _, _ => none
  | .ge => match x, y with
    | .int a, .int b => some (decide (a ≥ b))
    | _, _ => none
def isTy (d : D) (h : Hpp) : Ty → Bool := fun t => match d, t with
  | .bl _, .int => true
  | .bl _, .bool => true
  | .int _, .int => true
  | .str _, .str => true
  | .tup _, .tuple => true
  | .fl _, .list => true
  | .ref n, .list => match h[n]? with
    | some (.lst _) => true
    | _ => false
  | _, _ => false
def tyOk (d : D) (h : Hpp) : Bool := match d with
  | .ref n => match h[n]? with
    | some (.lst _) => true
    | _ => false
  | .fn _ => false
  | .sc _ => false
  | _ => true
def blsOf : List D → Option (List Bool)
  | [] => some []
  | .bl b :: r => (blsOf r).map (b :: ·)
  | _ :: _ => none
def insI (x : Int) : List Int → List Int
  | [] => [x]
  | y :: r => if x ≤ y then x :: y :: r else y :: insI x r
def sortI : List Int → List Int
  | [] => []
  | x :: r => insI x (sortI r)
def strsOf : List D → Option (List Str)
  | [] => some []
  | .str i :: r => (strsOf r).map (i :: ·)
  | _ :: _ => none
/-- rows of intsOf of one length -/
def tups : List D → Option (List (List Int))
  | [] => some []
  | .tup xs :: r => match intsOf xs, tups r with
    | some is, some rs => some (is :: rs)
    | _, _ => none
  | _ :: _ => none
def insT (x : List Int) : List (List Int) → List (List Int)
  | [] => [x]
  | y :: r => if lexLt y x then y :: insT x r else x :: y :: r
def sortT : List (List Int) → List (List Int)
  | [] => []
  | x :: r => insT x (sortT r)
def maxI : Int → List Int → Int
  | m, [] => m
  | m, x :: r => maxI (if m < x then x else m) r
def minI : Int → List Int → Int
  | m, [] => m
  | m, x :: r => minI (if x < m then x else m) r
def sorted (xs : List D) : Option (List D) := match intsOf xs with
  | some is => some ((sortI is).map D.int)
  | none => match tups xs with
    | some ts => some ((sortT ts).map fun t => D.tup (t.map D.int))
    | none => none
def find (k : D) (h : Hpp) : List (D × D) → Option (Option D)
  | [] => some none
  | (x, v) :: r => match pyEq x k h with
    | some true => some (some v)
    | some false => find k h r
    | none => none
def put (k v : D) (h : Hpp) : List (D × D) → Option (List (D × D))
  | [] => some [(k, v)]
  | (x, u) :: r => match pyEq x k h with
    | some true => some ((x, v) :: r)
    | some false => (put k v h r).map ((x, u) :: ·)
    | none => none
def putAll (h : Hpp) : List (D × D) → List (D × D) → Option (List (D × D))
  | [], acc => some acc
  | (k, v) :: r, acc => match put k v h acc with
    | some acc' => putAll h r acc'
    | none => none
def pairs : List D → Option (List (D × D))
  | [] => some []
  | .tup [a, b] :: r => (pairs r).map ((a, b) :: ·)
  | _ :: _ => none
def newD (kvs : List (D × D)) (h : Hpp) : R D := .ok (.ref h.length) (h ++ [.dic kvs])
def dicOf (d : D) (h : Hpp) : Option (List (D × D)) := match d with
  | .ref n => match h[n]? with
    | some (.dic kvs) => some kvs
    | _ => none
  | _ => none
/-- the keys of a dict, the items of a row: what a for over it walks -/
def itemsOf (d : D) (h : Hpp) : Option (List D) := match seqOf d h with
  | some xs => some xs
  | none => match dicOf d h with
    | some kvs => some (kvs.map (·.1))
    | none => match d with
      | .str s => some (s.cps.toList.map fun c => .str ⟨#[c]⟩)
      | _ => none
def inSeq (x : D) (h : Hpp) : List D → Option Bool
  | [] => some false
  | y :: r => match pyEq y x h with
    | some true => some true
    | some false => inSeq x h r
    | none => none
def inD (x y : D) (h : Hpp) : Option Bool := match seqOf y h with
  | some ys => inSeq x h ys
  | none => match dicOf y h with
    | some kvs => match find x h kvs with
      | some o => some o.isSome
      | none => none
    | none => match x, y with
      | .str a, .str b => some (!(PySem.Builtin.Str.occurrences b a 0 b.length 1).isEmpty)
      | _, _ => none
def idxOf (x : D) (h : Hpp) : List D → Option (Option Nat)
  | [] => some none
  | y :: r => match pyEq y x h with
    | some true => some (some 0)
    | some false => match idxOf x h r with
      | some (some k) => some (some (k + 1))
      | o => o
    | none => none
def cntOf (x : D) (h : Hpp) : List D → Option Nat
  | [] => some 0
  | y :: r => match pyEq y x h, cntOf x h r with
    | some b, some n => some (if b then n + 1 else n)
    | _, _ => none
def item (x y : D) (h : Hpp) : Option D := match x, y with
  | .str s, .int i => if s.length ≤ line then match atI s.cps.toList i with
    | some c => some (.str ⟨#[c]⟩)
    | none => none
    else none
  | x, y => match dicOf x h with
    | some kvs => match find y h kvs with
      | some (some v) => some v
      | _ => none
    | none => match seqOf x h, y with
      | some xs, .int i => atI xs i
      | _, _ => none
def slice (th : Bool) (x : D) (lo hi : Option Int) (h : Hpp) : R D := match x with
  | .tup xs => .ok (.tup (cut xs lo hi)) h
  | .str s => if s.length ≤ line then .ok (.str ⟨(cut s.cps.toList lo hi).toArray⟩) h else .no
  | x => match lsOf x h with
    | some xs => new th (cut xs lo hi) h
    | none => .no
def revd (th : Bool) (x : D) (h : Hpp) : R D := match lsOf x h with
  | some xs => new th xs.reverse h
  | none => .no
def doBi (b : Bi) (th : Bool) (ds : List D) (h : Hpp) : R D := match b, ds with
  | .len, [d] => match seqOf d h with
    | some xs => .ok (.int xs.length) h
    | none => match dicOf d h with
      | some kvs => .ok (.int kvs.length) h
      | none => match d with
        | .str s => if s.length ≤ line then .ok (.int s.length) h else .no
        | _ => .no
  | .abs, [.int i] => .ok (.int (if i < 0 then -i else i)) h
  | .int, [.int i] => .ok (.int i) h
  | .int, [.bl b] => .ok (.int (if b then 1 else 0)) h
  | .all, [d] => match lstOf d h with
    | some xs => match blsOf xs with
      | some bs => .ok (.bl (bs.all id)) h
      | none => .no
    | none => .no
  | .any, [d] => match lstOf d h with
    | some xs => match blsOf xs with
      | some bs => .ok (.bl (bs.any id)) h
      | none => .no
    | none => .no
  | .tuple, [d] => match seqOf d h with
    | some xs => .ok (.tup xs) h
    | none => .no
  | .list, [d] => match seqOf d h with
    | some xs => new th xs h
    | none => .no
  | .sum, [d] => match lsOf d h with
    | some xs => match intsOf xs with
      | some is => .ok (.int is.sum) h
      | none => .no
    | none => .no
  | .max, [.int a, .int b] => .ok (.int (if b > a then b else a)) h
  | .min, [.int a, .int b] => .ok (.int (if b < a then b else a)) h
  | .max, [d] => match lsOf d h with
    | some xs => match intsOf xs with
      | some (i :: is) => .ok (.int (maxI i is)) h
      | _ => .no
    | none => .no
  | .min, [d] => match lsOf d h with
    | some xs => match intsOf xs with
      | some (i :: is) => .ok (.int (minI i is)) h
      | _ => .no
    | none => .no
  | .sorted, [d] => match itemsOf d h with
    | some xs => match sorted xs with
      | some ys => new th ys h
      | none => .no
    | none => .no
  | .dict, [d] => match seqOf d h with
    | some xs => match pairs xs with
      | some kvs => match putAll h kvs [] with
        | some l => newD l h
        | none => .no
      | none => .no
    | none => .no
  | _, _ => .no
/-- a list in a cell -/
def refOf (o : D) (h : Hpp) : Option (Nat × List D) := match o with
  | .ref n => match h[n]? with
    | some (.lst xs) => some (n, xs)
    | _ => none
  | _ => none
def mtAppend (o : D) (ds : List D) (h : Hpp) : R D := match ds, refOf o h with
  | [d], some (n, xs) => if xs.length < line then .ok .non (h.set n (.lst (xs ++ [d]))) else .no
  | _, _ => .no
def mtExtend (o : D) (ds : List D) (h : Hpp) : R D := match ds, refOf o h with
  | [d], some (n, xs) => match lstOf d h with
    | some ys => if xs.length + ys.length ≤ line then .ok .non (h.set n (.lst (xs ++ ys))) else .no
    | none => .no
  | _, _ => .no
def mtPop (o : D) (ds : List D) (h : Hpp) : R D := match ds, refOf o h with
  | [], some (n, xs) => match xs[xs.length - 1]? with
    | some d => .ok d (h.set n (.lst xs.dropLast))
    | none => .no
  | [.int i], some (n, xs) => match ixN xs.length i with
    | some k => match xs[k]? with
      | some d => .ok d (h.set n (.lst (xs.eraseIdx k)))
      | none => .no
    | none => .no
  | _, _ => .no
def mtInsert (o : D) (ds : List D) (h : Hpp) : R D := match ds, refOf o h with
  | [.int i, d], some (n, xs) => if xs.length < line ∧ 0 ≤ i ∧ i < 2 ^ 63 then .ok .non (h.set n (.lst (xs.take i.toNat ++ [d] ++ xs.drop i.toNat))) else .no
  | _, _ => .no
def mtRemove (o : D) (ds : List D) (h : Hpp) : R D := match ds, refOf o h with
  | [d], some (n, xs) => match idxOf d h xs with
    | some (some k) => .ok .non (h.set n (.lst (xs.eraseIdx k)))
    | _ => .no
  | _, _ => .no
def mtIndex (o : D) (ds : List D) (h : Hpp) : R D := match ds, seqOf o h with
  | [d], some xs => match idxOf d h xs with
    | some (some k) => .ok (.int k) h
    | _ => .no
  | _, _ => .no
def mtCount (o : D) (ds : List D) (h : Hpp) : R D := match ds, seqOf o h with
  | [d], some xs => match cntOf d h xs with
    | some k => .ok (.int k) h
    | none => .no
  | _, _ => .no
def mtGet (o : D) (ds : List D) (h : Hpp) : R D := match ds, dicOf o h with
  | [k], some kvs => match find k h kvs with
    | some (some v) => .ok v h
    | some none => .ok .non h
    | none => .no
  | [k, d], some kvs => match find k h kvs with
    | some (some v) => .ok v h
    | some none => .ok d h
    | none => .no
  | _, _ => .no
/-- the receiver is of the method's kind -/
def mtRecv (m : Mt) (o : D) (h : Hpp) : Bool := match m with
  | .get => (dicOf o h).isSome
  | _ => (lstOf o h).isSome
def doMt (m : Mt) (o : D) (ds : List D) (h : Hpp) : R D := match m with
  | .append => mtAppend o ds h
  | .extend => mtExtend o ds h
  | .insert => mtInsert o ds h
  | .pop => mtPop o ds h
  | .remove => mtRemove o ds h
  | .index => mtIndex o ds h
  | .count => mtCount o ds h
  | .get => mtGet o ds h
def setItem (o i v : D) (h : Hpp) : Option Hpp := match o with
  | .ref n => match h[n]? with
    | some (.lst xs) => match i with
      | .int i => match ixN xs.length i with
        | some k => some (h.set n (.lst (xs.set k v)))
        | none => none
      | _ => none
    | some (.dic kvs) => match put i v h kvs with
      | some l => if l.length ≤ line then some (h.set n (.dic l)) else none
      | none => none
    | _ => none
  | _ => none
/-! ### targets, what is walked -/
mutual
def sto : Tg → Env → D → Option Env
  | .nil, _, _ => none
  | .name i, ρ, d => some (ρ.set i (some d))
  | .tup ts, ρ, d => match d with
    | .tup xs => stos ts ρ xs
    | _ => none
  | .cons _ _, _, _ => none
def stos : Tg → Env → List D → Option Env
  | .nil, ρ, ds => match ds with
    | [] => some ρ
    | _ :: _ => none
  | .cons t ts, ρ, ds => match ds with
    | [] => none
    | d :: r => match sto t ρ d with
      | some ρ' => stos ts ρ' r
      | none => none
  | .name _, _, _ => none
  | .tup _, _, _ => none
end
def wipe (ρ : Env) : List Nat → Env
  | [] => ρ
  | i :: r => (wipe ρ r).set i none
/-- what a loop walks: the items; the cells that must stay as they are -/
structure Src where
  items : List D
  held : List (Nat × Cell)
def Src.ok (s : Src) (h : Hpp) : Bool := s.held.all fun p => decide (h[p.1]? = some p.2)
def heldOf (d : D) (h : Hpp) : List (Nat × Cell) := match d with
  | .ref n => match h[n]? with
    | some c => [(n, c)]
    | none => []
  | _ => []
def srcOf (d : D) (h : Hpp) : R Src := match seqOf d h with
  | some xs => .ok ⟨xs, heldOf d h⟩ h
  | none => .no
def rangeL (lo : Int) (n : Nat) (c : Int) : List D := (List.range n).map fun (i : Nat) => .int (lo + (i : Int) * c)
def srcRange (lo hi : Int) (h : Hpp) : R Src :=
  if -(2 ^ 62) ≤ lo ∧ lo < 2 ^ 62 ∧ -(2 ^ 62) ≤ hi ∧ hi < 2 ^ 62 ∧ (hi - lo).toNat ≤ line then .ok ⟨rangeL lo (hi - lo).toNat 1, []⟩ h else .no
def srcDown (lo hi : Int) (h : Hpp) : R Src :=
  if -(2 ^ 62) ≤ lo ∧ lo < 2 ^ 62 ∧ -(2 ^ 62) ≤ hi ∧ hi < 2 ^ 62 ∧ (lo - hi).toNat ≤ line then .ok ⟨rangeL lo (lo - hi).toNat (-1), []⟩ h else .no
def enumL : Nat → List D → List D
  | _, [] => []
  | k, d :: r => .tup [.int k, d] :: enumL (k + 1) r
def zipL : List D → List D → List D
  | x :: xs, y :: ys => .tup [x, y] :: zipL xs ys
  | _, _ => []
/-- two lists, two tuples -/
def zipOf (x y : D) (h : Hpp) : Option (List D) := match x, y with
  | .tup xs, .tup ys => some (zipL xs ys)
  | x, y => match lsOf x h, lsOf y h with
    | some xs, some ys => some (zipL xs ys)
    | _, _ => none
/-! ### loops -/
/-- a comprehension's turns -/
def compL (ck : Hpp → Bool) (tg : D → Option Env) (cs : Env → Hpp → R Bool) (el : Env → Hpp → R D) : List D → Hpp → R (List D)
  | [], h => if ck h then .ok [] h else .no
  | d :: ds, h => if ck h then match tg d with
    | none => .no
    | some ρ => (cs ρ h).bind fun b h1 => match b with
      | true => (el ρ h1).bind fun y h2 => (compL ck tg cs el ds h2).bind fun ys h3 => .ok (y :: ys) h3
      | false => compL ck tg cs el ds h1
    else .no
/-- .. of two clauses -/
def compM (ck : Hpp → Bool) (tg : D → Option Env) (cs : Env → Hpp → R Bool) (el : Env → Hpp → R (List D)) : List D → Hpp → R (List D)
  | [], h => if ck h then .ok [] h else .no
  | d :: ds, h => if ck h then match tg d with
    | none => .no
    | some ρ => (cs ρ h).bind fun b h1 => match b with
      | true => (el ρ h1).bind fun y h2 => (compM ck tg cs el ds h2).bind fun ys h3 => .ok (y ++ ys) h3
      | false => compM ck tg cs el ds h1
    else .no
/-- an error within a comprehension is nothing that we tell -/
def noEr {α : Type} (r : R α) : R α := match r with
  | .er _ _ => .no
  | r => r
def forL (ck : Hpp → Bool) (tg : Env → D → Option Env) (b : Env → Hpp → O) : List D → Env → Hpp → O
  | [], ρ, h => if ck h then .nx ρ h else .no
  | d :: ds, ρ, h => if ck h then match tg ρ d with
    | none => .no
    | some ρ1 => match b ρ1 h with
      | .nx ρ2 h2 => forL ck tg b ds ρ2 h2
      | .ct ρ2 h2 => forL ck tg b ds ρ2 h2
      | .bk ρ2 h2 => .nx ρ2 h2
      | o => o
    else .no
def whileO (c : Env → Hpp → R Bool) (b : Env → Hpp → O) (ρ : Env) (h : Hpp) : Option O :=
  match c ρ h with
  | .ok true h1 => match b ρ h1 with
    | .nx ρ' h' => whileO c b ρ' h'
    | .ct ρ' h' => whileO c b ρ' h'
    | .bk ρ' h' => some (.nx ρ' h')
    | .no => none
    | .rt d h' => some (.rt d h')
    | .er x ρ' h' => some (.er x ρ' h')
  | .ok false h1 => some (.nx ρ h1)
  | .er x h1 => some (.er x ρ h1)
  | .no => none
partial_fixpoint
def whileL (c : Env → Hpp → R Bool) (b : Env → Hpp → O) (ρ : Env) (h : Hpp) : O := (whileO c b ρ h).getD .no
/-! ### the evaluator: cal f ds h: what a call of the def f tells -/
abbrev Cal := Nat → List D → Hpp → R D
def tru (r : R D) : R Bool := r.bind fun d h => opt (truthy d h) h
mutual
def ev (cal : Cal) : E → Env → Hpp → R D
  | .cst d, _, h => .ok d h
  | .var i, ρ, h => match ρ[i]? with
    | some (some d) => .ok d h
    | _ => .no
  | .glb _ d, _, h => .ok d h
  | .tup es, ρ, h => (evs cal es ρ h).bind fun ds h => .ok (.tup ds) h
  | .lst th es, ρ, h => (evs cal es ρ h).bind fun ds h => new th ds h
  | .bin th op a b, ρ, h => (ev cal a ρ h).bind fun x h => (ev cal b ρ h).bind fun y h => bop op th x y h
  | .neg a, ρ, h => (ev cal a ρ h).bind fun x h => match x with
    | .int i => .ok (.int (-i)) h
    | _ => .no
  | .not a, ρ, h => (tru (ev cal a ρ h)).bind fun b h => .ok (.bl (!b)) h
  | .and a b, ρ, h => (ev cal a ρ h).bind fun x h => (opt (truthy x h) h).bind fun k h => match k with
    | true => ev cal b ρ h
    | false => .ok x h
  | .or a b, ρ, h => (ev cal a ρ h).bind fun x h => (opt (truthy x h) h).bind fun k h => match k with
    | true => .ok x h
    | false => ev cal b ρ h
  | .cmp op a b, ρ, h => (ev cal a ρ h).bind fun x h => (ev cal b ρ h).bind fun y h => (opt (cop op x y h) h).bind fun k h => .ok (.bl k) h
  | .isN ng a, ρ, h => (ev cal a ρ h).bind fun x h => .ok (.bl (decide (x = .non) != ng)) h
  | .inn ng a b, ρ, h => (ev cal a ρ h).bind fun x h => (ev cal b ρ h).bind fun y h => (opt (inD x y h) h).bind fun k h => .ok (.bl (k != ng)) h
  | .chain o1 o2 a b c, ρ, h => (ev cal a ρ h).bind fun x h => (ev cal b ρ h).bind fun y h => (opt (cop o1 x y h) h).bind fun k h => match k with
    | false => .ok (.bl false) h
    | true => (ev cal c ρ h).bind fun z h => (opt (cop o2 y z h) h).bind fun k h => .ok (.bl k) h
  | .ite c a b, ρ, h => (tru (ev cal c ρ h)).bind fun k h => match k with
    | true => ev cal a ρ h
    | false => ev cal b ρ h
  | .call f es, ρ, h => (evs cal es ρ h).bind fun ds h => cal f ds h
  | .callv i es, ρ, h => match ρ[i]? with
    | some (some (.fn f)) => (evs cal es ρ h).bind fun ds h => cal f ds h
    | _ => .no
  | .bi b th es, ρ, h => (evs cal es ρ h).bind fun ds h => doBi b th ds h
  | .conv b th it, ρ, h => (src cal it ρ h).bind fun s h => match b with
    | .list => new th s.items h
    | .tuple => .ok (.tup s.items) h
    | _ => .no
  | .isi a ts, ρ, h => (ev cal a ρ h).bind fun x h => if tyOk x h then .ok (.bl (ts.any fun t => isTy x h t)) h else .no
  | .mth m o es, ρ, h => (ev cal o ρ h).bind fun x h => if mtRecv m x h then (evs cal es ρ h).bind fun ds h => doMt m x ds h else .no
  | .idx a b, ρ, h => (ev cal a ρ h).bind fun x h => (ev cal b ρ h).bind fun y h => opt (item x y h) h
  | .sl th a lo hi, ρ, h => (ev cal a ρ h).bind fun x h => (evo cal lo ρ h).bind fun l h => (evo cal hi ρ h).bind fun u h => slice th x l u h
  | .rev th a, ρ, h => (ev cal a ρ h).bind fun x h => revd th x h
  | .comp th elt tg it cs own, ρ, h => (src cal it ρ h).bind fun s h => if s.items.length ≤ line then
      (noEr (compL s.ok (fun d => sto tg (wipe ρ own) d) (fun ρ h => evc cal cs ρ h) (fun ρ h => ev cal elt ρ h) s.items h)).bind fun ds h => new th ds h
      else .no
  | .comp2 th elt tg it cs tg1 it1 cs1 own, ρ, h => (src cal it ρ h).bind fun s h =>
      (noEr (compM s.ok (fun d => sto tg (wipe ρ own) d) (fun ρ h => evc cal cs ρ h)
        (fun ρ h => (src cal it1 ρ h).bind fun s1 h => compL s1.ok (fun d => sto tg1 ρ d) (fun ρ h => evc cal cs1 ρ h) (fun ρ h => ev cal elt ρ h) s1.items h) s.items h)).bind fun ds h =>
      if ds.length ≤ line then new th ds h else .no
  | .dic ks vs, ρ, h => match ks with
    | .nil => newD [] h
    | _ => (evs cal ks ρ h).bind fun kd h => (evs cal vs ρ h).bind fun vd h => match putAll h (kd.zip vd) [] with
      | some l => newD l h
      | none => .no
def evs (cal : Cal) : Es → Env → Hpp → R (List D)
  | .nil, _, h => .ok [] h
  | .cons e es, ρ, h => (ev cal e ρ h).bind fun d h => (evs cal es ρ h).bind fun ds h => .ok (d :: ds) h
/-- a slice's part -/
def evo (cal : Cal) : Es → Env → Hpp → R (Option Int)
  | .nil, _, h => .ok none h
  | .cons e _, ρ, h => (ev cal e ρ h).bind fun d h => match d with
    | .int i => .ok (some i) h
    | _ => .no
/-- tests, all of them -/
def evc (cal : Cal) : Es → Env → Hpp → R Bool
  | .nil, _, h => .ok true h
  | .cons e es, ρ, h => (tru (ev cal e ρ h)).bind fun b h => match b with
    | true => evc cal es ρ h
    | false => .ok false h
def src (cal : Cal) : Itr → Env → Hpp → R Src
  | .of e, ρ, h => (ev cal e ρ h).bind fun d h => srcOf d h
  | .range1 a, ρ, h => (ev cal a ρ h).bind fun x h => match x with
    | .int i => srcRange 0 i h
    | _ => .no
  | .range2 a b, ρ, h => (ev cal a ρ h).bind fun x h => (ev cal b ρ h).bind fun y h => match x, y with
    | .int i, .int j => srcRange i j h
    | _, _ => .no
  | .range3 a b c, ρ, h => (ev cal a ρ h).bind fun x h => (ev cal b ρ h).bind fun y h => (ev cal c ρ h).bind fun z h => match x, y, z with
    | .int i, .int j, .int c => if c = -1 then srcDown i j h else .no
    | _, _, _ => .no
  | .enum e, ρ, h => (ev cal e ρ h).bind fun d h => match lsOf d h with
    | some xs => .ok ⟨enumL 0 xs, heldOf d h⟩ h
    | none => .no
  | .zip a b, ρ, h => (ev cal a ρ h).bind fun x h => (ev cal b ρ h).bind fun y h => match zipOf x y h with
    | some xs => .ok ⟨xs, heldOf x h ++ heldOf y h⟩ h
    | none => .no
end
mutual
def asg (cal : Cal) : Lv → D → Env → Hpp → O
  | .nil, _, _, _ => .no
  | .name i, d, ρ, h => .nx (ρ.set i (some d)) h
  | .tup ts, d, ρ, h => match d with
    | .tup xs => if xs.length = ts.len then asgs cal ts xs ρ h else .no
    | _ => .no
  | .cons _ _, _, _, _ => .no
  | .sub a b, d, ρ, h => match ev cal a ρ h with
    | .ok x h1 => match ev cal b ρ h1 with
      | .ok y h2 => match setItem x y d h2 with
        | some h3 => .nx ρ h3
        | none => .no
      | .er c h2 => .er c ρ h2
      | .no => .no
    | .er c h1 => .er c ρ h1
    | .no => .no
def asgs (cal : Cal) : Lv → List D → Env → Hpp → O
  | .nil, ds, ρ, h => match ds with
    | [] => .nx ρ h
    | _ :: _ => .no
  | .cons t ts, ds, ρ, h => match ds with
    | [] => .no
    | d :: r => match asg cal t d ρ h with
      | .nx ρ' h' => asgs cal ts r ρ' h'
      | o => o
  | .name _, _, _, _ => .no
  | .tup _, _, _, _ => .no
  | .sub _ _, _, _, _ => .no
end
def andThen (r : R D) (ρ : Env) (f : D → Hpp → O) : O := match r with
  | .ok d h => f d h
  | .er c h => .er c ρ h
  | .no => .no
@[simp] theorem andThen_ok (d : D) (h : Hpp) (ρ : Env) (f : D → Hpp → O) : andThen (.ok d h) ρ f = f d h := rfl
@[simp] theorem andThen_er (c : Nat) (h : Hpp) (ρ : Env) (f : D → Hpp → O) : andThen (.er c h) ρ f = .er c ρ h := rfl
@[simp] theorem andThen_no (ρ : Env) (f : D → Hpp → O) : andThen .no ρ f = .no := rfl
def O.seq (o : O) (f : Env → Hpp → O) : O := match o with
  | .nx ρ h => f ρ h
  | o => o
@[simp] theorem O.seq_nx (ρ : Env) (h : Hpp) (f : Env → Hpp → O) : (O.nx ρ h).seq f = f ρ h := rfl
@[simp] theorem O.seq_rt (d : D) (h : Hpp) (f : Env → Hpp → O) : (O.rt d h).seq f = .rt d h := rfl
@[simp] theorem O.seq_bk (ρ : Env) (h : Hpp) (f : Env → Hpp → O) : (O.bk ρ h).seq f = .bk ρ h := rfl
@[simp] theorem O.seq_ct (ρ : Env) (h : Hpp) (f : Env → Hpp → O) : (O.ct ρ h).seq f = .ct ρ h := rfl
@[simp] theorem O.seq_er (c : Nat) (ρ : Env) (h : Hpp) (f : Env → Hpp → O) : (O.er c ρ h).seq f = .er c ρ h := rfl
@[simp] theorem O.seq_no (f : Env → Hpp → O) : (O.no).seq f = .no := rfl
mutual
def ex (cal : Cal) : S → Env → Hpp → O
  | .exp e, ρ, h => andThen (ev cal e ρ h) ρ fun _ h => .nx ρ h
  | .asg t e, ρ, h => andThen (ev cal e ρ h) ρ fun d h => asg cal t d ρ h
  | .aug i op e, ρ, h => match ρ[i]? with
    | some (some x) => andThen (ev cal e ρ h) ρ fun y h => match x, y with
      | .int _, .int _ => andThen (bop op false x y h) ρ fun z h => .nx (ρ.set i (some z)) h
      | _, _ => .no
    | _ => .no
  | .augs a b op e, ρ, h => andThen (ev cal a ρ h) ρ fun x h => andThen (ev cal b ρ h) ρ fun i h => match item x i h with
    | none => .no
    | some y => andThen (ev cal e ρ h) ρ fun z h => match y, z with
      | .int _, .int _ => andThen (bop op false y z h) ρ fun w h => match setItem x i w h with
        | some h3 => .nx ρ h3
        | none => .no
      | _, _ => .no
  | .iff c a b, ρ, h => match tru (ev cal c ρ h) with
    | .ok true h1 => exs cal a ρ h1
    | .ok false h1 => exs cal b ρ h1
    | .er x h1 => .er x ρ h1
    | .no => .no
  | .whl c b, ρ, h => whileL (fun ρ h => tru (ev cal c ρ h)) (fun ρ h => exs cal b ρ h) ρ h
  | .for_ tg it b, ρ, h => match src cal it ρ h with
    | .ok s h1 => forL s.ok (fun ρ d => sto tg ρ d) (fun ρ h => exs cal b ρ h) s.items ρ h1
    | .er x h1 => .er x ρ h1
    | .no => .no
  | .ret e, ρ, h => andThen (ev cal e ρ h) ρ fun d h => .rt d h
  | .retn, _, h => .rt .non h
  | .raise c, ρ, h => .er c ρ h
  | .tr b hs, ρ, h => match exs cal b ρ h with
    | .er c ρ' h' => exh cal hs c ρ' h'
    | o => o
  | .pass, ρ, h => .nx ρ h
  | .cont, ρ, h => .ct ρ h
  | .brk, ρ, h => .bk ρ h
def exs (cal : Cal) : Ss → Env → Hpp → O
  | .nil, ρ, h => .nx ρ h
  | .cons s ss, ρ, h => (ex cal s ρ h).seq fun ρ h => exs cal ss ρ h
def exh (cal : Cal) : Hs → Nat → Env → Hpp → O
  | .nil, c, ρ, h => .er c ρ h
  | .cons k d hs, c, ρ, h => if k = c then .rt d h else exh cal hs c ρ h
end
/-! ### defs -/
mutual
def pureD : D → Bool
  | .tup xs => pureL xs
  | .fl xs => pureL xs
  | .ref _ => false
  | _ => true
def pureL : List D → Bool
  | [] => true
  | x :: xs => pureD x && pureL xs
end
mutual
def below (n : Nat) : D → Bool
  | .tup xs => belowL n xs
  | .fl xs => belowL n xs
  | .ref k => decide (k < n)
  | _ => true
def belowL (n : Nat) : List D → Bool
  | [] => true
  | x :: xs => below n x && belowL n xs
end
/-- a def: parameters, slots, body; mode 0: pure, 1: leaves the cells as they are, 2: any -/
structure Fn where
  np : Nat
  nl : Nat
  body : Ss
  mode : Nat
def env0 (fn : Fn) (ds : List D) : Env := ds.map some ++ List.replicate (fn.nl - fn.np) none
mutual
/-- no list within -/
def noL : D → Bool
  | .tup xs => noLs xs
  | .fl _ => false
  | .ref _ => false
  | .sc _ => false
  | _ => true
def noLs : List D → Bool
  | [] => true
  | x :: xs => noL x && noLs xs
end
mutual
/-- lists in the cells from n on become values -/
def frz (n : Nat) (h : Hpp) : Nat → D → D
  | 0, d => d
  | k + 1, .tup xs => .tup (frzL n h k xs)
  | k + 1, .fl xs => .fl (frzL n h k xs)
  | k + 1, .ref j => if j < n then .ref j else match h[j]? with
    | some (.lst xs) => .fl (frzL n h k xs)
    | _ => .ref j
  | _, d => d
def frzL (n : Nat) (h : Hpp) : Nat → List D → List D
  | _, [] => []
  | k, x :: xs => frz n h k x :: frzL n h k xs
end
def fin0 (p : Bool) (h : Hpp) (o : O) : R D := match o with
  | .rt d h' => if (p && pureD (frz 0 h' 9 d)) || noL (frz 0 h' 9 d) then .ok (frz 0 h' 9 d) h else .no
  | .nx _ _ => .ok .non h
  | .er c _ _ => .er c h
  | _ => .no
def fin1 (h : Hpp) (o : O) : R D := match o with
  | .rt d h' => if h'.take h.length = h ∧ below h.length (frz h.length h' 9 d) = true then .ok (frz h.length h' 9 d) h else .no
  | .nx _ h' => if h'.take h.length = h then .ok .non h else .no
  | .er c _ h' => if h'.take h.length = h then .er c h else .no
  | _ => .no
def fin2 (o : O) : R D := match o with
  | .rt d h' => .ok d h'
  | .nx _ h' => .ok .non h'
  | .er c _ h' => .er c h'
  | _ => .no
def runFn (cal : Cal) (fn : Fn) (ds : List D) (h : Hpp) : R D :=
  if ds.length = fn.np then match fn.mode with
    | 0 => if pureL (ds.map fun d => res d h) then fin0 (pureL ds) h (exs cal fn.body (env0 fn (ds.map fun d => res d h)) []) else .no
    | 1 => fin1 h (exs cal fn.body (env0 fn ds) h)
    | _ => fin2 (exs cal fn.body (env0 fn ds) h)
  else .no
def callF (fns : List Fn) : Nat → Cal
  | 0 => fun _ _ _ => .no
  | k + 1 => fun f ds h => match fns[f]? with
    | some fn => runFn (callF fns k) fn ds h
    | none => .no
end PL
end
section
set_option Elab.async false
set_option linter.all false
set_option maxRecDepth 100000
set_option maxHeartbeats 1000000
/-! PLS: what the evaluator tells, the model does. -/
namespace PL
open PySem PySem.Spec PyProof.Rows L2
/-! ### values and what stands for them -/
def KL (K : PySem.W.Frag) (a : Addr) (xs : List V) : Prop :=
  ∃ (o : Obj) (its : Array Value) (n : Nat), K.lookup a = some o ∧ o.cls = .type "list" ∧ o.dict = none ∧ o.data = .seq its n ∧ its.size ≤ sizeLine ∧ Vals xs its.toList
/-- the written part, the defs' addresses -/
structure Ge where
  K : PySem.W.Frag
  fa : Nat → Addr
  nf : Nat
  nx : Nat
section
variable (G : Ge) (F : Addr → Prop) (ι : List Addr) (H : Hp)
mutual
def VR : D → V → Prop
  | .non, v => v = .non
  | .bl b, v => v = .bl b
  | .int i, v => v = .int i
  | .str s, v => v = .str s
  | .tup xs, v => ∃ a vs, v = .ref a ∧ SqT G.K H a vs ∧ VRs xs vs
  | .fl xs, v => ∃ a vs, v = .ref a ∧ (H a = some (.lst vs) ∧ a ∉ ι ∧ ¬ F a) ∧ VRs xs vs
  | .ref n, v => ∃ a, v = .ref a ∧ ι[n]? = some a
  | .fn f, v => v = .ref (G.fa f) ∧ f < G.nf
  | .sc is, v => ∃ a, v = .ref a ∧ (KL G.K a (is.map V.int) ∨ (Rd H a (.lst (is.map V.int)) ∧ a ∉ ι ∧ ¬ F a))
def VRs : List D → List V → Prop
  | [], vs => vs = []
  | x :: xs, vs => ∃ v r, vs = v :: r ∧ VR x v ∧ VRs xs r
end
/-- a cell and what is tracked -/
def CR (c : Cell) (a : Addr) : Prop := match c with
  | .lst xs => ∃ vs, H a = some (.lst vs) ∧ VRs G F ι H xs vs
  | .dic _ => False
  | .obj _ _ => False
structure Rel (h : Hpp) : Prop where
  len : ι.length = h.length
  nd : ι.Nodup
  cells : ∀ (n : Nat) (a : Addr) (c : Cell), ι[n]? = some a → h[n]? = some c → CR G F ι H c a
  own : ∀ a ∈ ι, ¬ F a
  frn : ∀ a, F a → ∃ o, H a = some o
end
/-- what changes: the cells alone; new cells are new -/
structure Grow (H : Hp) (ι : List Addr) (H' : Hp) (ι' : List Addr) : Prop where
  keep : ∀ a o, H a = some o → a ∉ ι → H' a = some o
  pre : ∃ m, ι' = ι ++ m
  new : ∀ a ∈ ι', a ∈ ι ∨ H a = none
/-- a cell is a thing that may be written -/
def Cells (H : Hp) (ι : List Addr) : Prop := ∀ a ∈ ι, ∃ o, H a = some o ∧ Mut (some o)
theorem Grow.refl {H : Hp} {ι : List Addr} : Grow H ι H ι := ⟨fun _ _ e _ => e, ⟨[], by simp⟩, fun _ h => .inl h⟩
theorem Grow.trans {H1 H2 H3 : Hp} {ι1 ι2 ι3 : List Addr} (a : Grow H1 ι1 H2 ι2) (b : Grow H2 ι2 H3 ι3) : Grow H1 ι1 H3 ι3 where
  keep := fun x o e n => b.keep x o (a.keep x o e n) fun z => by
    rcases a.new x z with q | q
    · exact n q
    · rw [e] at q; cases q
  pre := by
    obtain ⟨m, rfl⟩ := a.pre
    obtain ⟨m', rfl⟩ := b.pre
    exact ⟨m ++ m', by simp⟩
  new := fun x hx => by
    rcases b.new x hx with q | q
    · exact a.new x q
    · by_cases hi : x ∈ ι1
      · exact .inl hi
      · right
        cases e : H1 x with
        | none => rfl
        | some o =>
          have := a.keep x o e hi
          rw [q] at this; cases this
theorem Grow.at {H H' : Hp} {ι ι' : List Addr} (g : Grow H ι H' ι') {n : Nat} {a : Addr} (e : ι[n]? = some a) : ι'[n]? = some a := by
  obtain ⟨m, rfl⟩ := g.pre
  obtain ⟨h, _⟩ := List.getElem?_eq_some_iff.mp e
  rw [List.getElem?_append_left h]; exact e
theorem Grow.rd {H H' : Hp} {ι ι' : List Addr} (g : Grow H ι H' ι') {a : Addr} {u : HO} (n : a ∉ ι) (r : Rd H a u) : Rd H' a u := by
  rcases r with r | ⟨o, r⟩
  · exact .inl (g.keep a _ r n)
  · exact .inr ⟨o, g.keep a _ r n⟩
theorem Rd.some {H : Hp} {a : Addr} {u : HO} (r : Rd H a u) : ∃ o, H a = some o := by
  rcases r with r | ⟨o, r⟩
  · exact ⟨_, r⟩
  · exact ⟨_, r⟩
theorem Rd.tup_not {H : Hp} {ι : List Addr} {a : Addr} {vs : List V} (c : Cells H ι) (r : Rd H a (.tup vs)) : a ∉ ι := fun h => by
  obtain ⟨o, e, m⟩ := c a h
  rcases r with r | ⟨o', r⟩
  · rw [r] at e; cases e; exact m
  · rw [r] at e; cases e; exact m
theorem Grow.out {H H' : Hp} {ι ι' : List Addr} (g : Grow H ι H' ι') {a : Addr} (n : a ∉ ι) (s : ∃ o, H a = some o) : a ∉ ι' := fun h => by
  rcases g.new a h with q | q
  · exact n q
  · obtain ⟨o, e⟩ := s
    rw [e] at q; cases q
section
variable {G : Ge} {F F' : Addr → Prop} {ι ι' : List Addr} {H H' : Hp}
theorem SqT.grow (g : Grow H ι H' ι') (c : Cells H ι) {a : Addr} {vs : List V} (r : SqT G.K H a vs) : SqT G.K H' a vs := by
  rcases r with r | r
  · exact .inl (g.rd (Rd.tup_not c r) r)
  · exact .inr r
mutual
theorem VR.mono (g : Grow H ι H' ι') (c : Cells H ι) (f : ∀ a, F' a → F a ∨ H a = none) : ∀ {d : D} {v : V}, VR G F ι H d v → VR G F' ι' H' d v
  | .non, _, r => r
  | .bl _, _, r => r
  | .int _, _, r => r
  | .str _, _, r => r
  | .tup xs, v, r => by
    obtain ⟨a, vs, e, s, t⟩ := r
    exact ⟨a, vs, e, SqT.grow g c s, VRs.mono g c f t⟩
  | .fl xs, v, r => by
    obtain ⟨a, vs, e, ⟨s, n, nf⟩, t⟩ := r
    refine ⟨a, vs, e, ⟨g.keep a _ s n, g.out n ⟨_, s⟩, fun z => ?_⟩, VRs.mono g c f t⟩
    rcases f a z with q | q
    · exact nf q
    · rw [q] at s; cases s
  | .ref n, v, r => by
    obtain ⟨a, e, i⟩ := r
    exact ⟨a, e, g.at i⟩
  | .fn _, _, r => r
  | .sc is, v, r => by
    obtain ⟨a, e, s⟩ := r
    refine ⟨a, e, ?_⟩
    rcases s with s | ⟨s, n, nf⟩
    · exact .inl s
    · refine .inr ⟨g.rd n s, g.out n (Rd.some s), fun z => ?_⟩
      rcases f a z with q | q
      · exact nf q
      · obtain ⟨o, e'⟩ := Rd.some s
        rw [q] at e'; cases e'
theorem VRs.mono (g : Grow H ι H' ι') (c : Cells H ι) (f : ∀ a, F' a → F a ∨ H a = none) : ∀ {ds : List D} {vs : List V}, VRs G F ι H ds vs → VRs G F' ι' H' ds vs
  | [], _, r => r
  | x :: xs, vs, r => by
    obtain ⟨v, t, e, r1, r2⟩ := r
    exact ⟨v, t, e, VR.mono g c f r1, VRs.mono g c f r2⟩
end
theorem VR.up (g : Grow H ι H' ι') (c : Cells H ι) {d : D} {v : V} (r : VR G F ι H d v) : VR G F ι' H' d v := VR.mono g c (fun _ z => .inl z) r
theorem VRs.up (g : Grow H ι H' ι') (c : Cells H ι) {d : List D} {v : List V} (r : VRs G F ι H d v) : VRs G F ι' H' d v := VRs.mono g c (fun _ z => .inl z) r
theorem VRs.length : ∀ {ds : List D} {vs : List V}, VRs G F ι H ds vs → vs.length = ds.length
  | [], _, r => by cases r; rfl
  | x :: xs, _, r => by
    obtain ⟨v, t, rfl, _, r2⟩ := r
    simp [VRs.length r2]
theorem VRs.get : ∀ {ds : List D} {vs : List V} {i : Nat} {d : D}, VRs G F ι H ds vs → ds[i]? = some d → ∃ v, vs[i]? = some v ∧ VR G F ι H d v
  | [], _, _, _, _, e => by simp at e
  | x :: xs, _, 0, d, r, e => by
    obtain ⟨v, t, rfl, r1, _⟩ := r
    simp at e; subst e
    exact ⟨v, by simp, r1⟩
  | x :: xs, _, i + 1, d, r, e => by
    obtain ⟨v, t, rfl, _, r2⟩ := r
    obtain ⟨u, h1, h2⟩ := VRs.get (i := i) r2 (by simpa using e)
    exact ⟨u, by simpa using h1, h2⟩
theorem VRs.getV : ∀ {ds : List D} {vs : List V} {i : Nat} {v : V}, VRs G F ι H ds vs → vs[i]? = some v → ∃ d, ds[i]? = some d ∧ VR G F ι H d v
  | [], _, _, _, r, e => by cases r; simp at e
  | x :: xs, _, 0, d, r, e => by
    obtain ⟨v, t, rfl, r1, _⟩ := r
    simp at e; subst e
    exact ⟨x, by simp, r1⟩
  | x :: xs, _, i + 1, d, r, e => by
    obtain ⟨v, t, rfl, _, r2⟩ := r
    obtain ⟨u, h1, h2⟩ := VRs.getV (i := i) r2 (by simpa using e)
    exact ⟨u, by simpa using h1, h2⟩
theorem VRs.append : ∀ {ds es : List D} {vs us : List V}, VRs G F ι H ds vs → VRs G F ι H es us → VRs G F ι H (ds ++ es) (vs ++ us)
  | [], _, _, _, r, s => by cases r; exact s
  | x :: xs, es, _, us, r, s => by
    obtain ⟨v, t, rfl, r1, r2⟩ := r
    exact ⟨v, t ++ us, rfl, r1, VRs.append r2 s⟩
theorem VRs.one {d : D} {v : V} (r : VR G F ι H d v) : VRs G F ι H [d] [v] := ⟨v, [], rfl, r, rfl⟩
theorem VRs.two {d e : D} {v u : V} (r : VR G F ι H d v) (s : VR G F ι H e u) : VRs G F ι H [d, e] [v, u] := ⟨v, [u], rfl, r, u, [], rfl, s, rfl⟩
theorem VRs.take : ∀ {ds : List D} {vs : List V} (n : Nat), VRs G F ι H ds vs → VRs G F ι H (ds.take n) (vs.take n)
  | ds, vs, 0, _ => by
    rw [List.take_zero, List.take_zero]; exact rfl
  | [], _, n + 1, r => by cases r; exact rfl
  | x :: xs, _, n + 1, r => by
    obtain ⟨v, t, rfl, r1, r2⟩ := r
    exact ⟨v, t.take n, rfl, r1, VRs.take n r2⟩
theorem VRs.drop : ∀ {ds : List D} {vs : List V} (n : Nat), VRs G F ι H ds vs → VRs G F ι H (ds.drop n) (vs.drop n)
  | _, _, 0, r => r
  | [], _, n + 1, r => by cases r; exact rfl
  | x :: xs, _, n + 1, r => by
    obtain ⟨v, t, rfl, _, r2⟩ := r
    exact VRs.drop n r2
theorem VRs.set {d : D} {v : V} (r0 : VR G F ι H d v) : ∀ {ds : List D} {vs : List V} (n : Nat), VRs G F ι H ds vs → VRs G F ι H (ds.set n d) (vs.set n v)
  | [], _, _, r => by cases r; exact rfl
  | x :: xs, _, 0, r => by
    obtain ⟨u, t, rfl, _, r2⟩ := r
    exact ⟨v, t, rfl, r0, r2⟩
  | x :: xs, _, n + 1, r => by
    obtain ⟨u, t, rfl, r1, r2⟩ := r
    exact ⟨u, t.set n v, rfl, r1, VRs.set r0 n r2⟩
theorem VRs.eraseIdx : ∀ {ds : List D} {vs : List V} (n : Nat), VRs G F ι H ds vs → VRs G F ι H (ds.eraseIdx n) (vs.eraseIdx n)
  | [], _, _, r => by cases r; exact rfl
  | x :: xs, _, 0, r => by
    obtain ⟨u, t, rfl, _, r2⟩ := r
    exact r2
  | x :: xs, _, n + 1, r => by
    obtain ⟨u, t, rfl, r1, r2⟩ := r
    exact ⟨u, t.eraseIdx n, rfl, r1, VRs.eraseIdx n r2⟩
theorem VRs.reverse : ∀ {ds : List D} {vs : List V}, VRs G F ι H ds vs → VRs G F ι H ds.reverse vs.reverse
  | [], _, r => by cases r; exact rfl
  | x :: xs, _, r => by
    obtain ⟨u, t, rfl, r1, r2⟩ := r
    rw [List.reverse_cons, List.reverse_cons]
    exact VRs.append (VRs.reverse r2) (VRs.one r1)
theorem VRs.rep {ds : List D} {vs : List V} (r : VRs G F ι H ds vs) : ∀ n : Nat, VRs G F ι H (List.replicate n ds).flatten (List.replicate n vs).flatten
  | 0 => rfl
  | n + 1 => by
    rw [List.replicate_succ, List.replicate_succ, List.flatten_cons, List.flatten_cons]
    exact VRs.append r (VRs.rep r n)
theorem VRs.ints : ∀ {is : List Int}, VRs G F ι H (is.map D.int) (is.map V.int)
  | [] => rfl
  | i :: is => ⟨.int i, is.map V.int, rfl, rfl, VRs.ints⟩
theorem VRs.ints_of : ∀ {is : List Int} {vs : List V}, VRs G F ι H (is.map D.int) vs → vs = is.map V.int
  | [], vs, r => r
  | i :: is, vs, r => by
    obtain ⟨v, t, rfl, r1, r2⟩ := r
    have r1 : v = .int i := r1
    rw [r1, VRs.ints_of r2]; rfl
/-- the state's facts -/
theorem Rel.cellsOk {h : Hpp} (r : Rel G F ι H h) : Cells H ι := fun a ha => by
  obtain ⟨n, e⟩ := List.mem_iff_getElem?.mp ha
  have hn : n < h.length := by rw [← r.len]; exact (List.getElem?_eq_some_iff.mp e).1
  have c := r.cells n a h[n] e (List.getElem?_eq_getElem hn)
  cases hc : h[n] with
  | lst xs =>
    rw [hc] at c
    obtain ⟨vs, q, _⟩ := c
    exact ⟨_, q, trivial⟩
  | dic _ => rw [hc] at c; exact c.elim
  | obj _ _ => rw [hc] at c; exact c.elim
theorem CR.mono {c : Cell} {a : Addr} (g : Grow H ι H' ι') (cs : Cells H ι) (f : ∀ a, F' a → F a ∨ H a = none) (e : H' a = H a) (r : CR G F ι H c a) : CR G F' ι' H' c a := by
  cases c with
  | lst xs =>
    obtain ⟨vs, q, t⟩ := r
    exact ⟨vs, e.trans q, VRs.mono g cs f t⟩
  | dic _ => exact r
  | obj _ _ => exact r
/-- a new thing that is no cell -/
theorem Rel.upd {h : Hpp} {p : Addr} {o : HO} (r : Rel G F ι H h) (n : H p = none) : Rel G F ι (upd H p o) h ∧ Grow H ι (upd H p o) ι := by
  have np : ∀ a ∈ ι, a ≠ p := fun a ha e => by
    obtain ⟨o', q, _⟩ := r.cellsOk a ha
    rw [e, n] at q; cases q
  have g : Grow H ι (L2.upd H p o) ι := ⟨fun a o' e _ => by rw [upd_ne (ne_of_none e n)]; exact e, ⟨[], by simp⟩, fun _ h => .inl h⟩
  refine ⟨⟨r.len, r.nd, fun k a c e1 e2 => ?_, r.own, fun a fa => ?_⟩, g⟩
  · refine CR.mono g r.cellsOk (fun _ z => .inl z) ?_ (r.cells k a c e1 e2)
    rw [upd_ne (np a (List.mem_of_getElem? e1))]
  · obtain ⟨o', q⟩ := r.frn a fa
    exact ⟨o', by rw [upd_ne (ne_of_none q n)]; exact q⟩
/-- a new cell -/
theorem Rel.cell {h : Hpp} {p : Addr} {xs : List D} {vs : List V} (r : Rel G F ι H h) (n : H p = none) (nf : ¬ F p) (s : VRs G F ι H xs vs) :
    Rel G F (ι ++ [p]) (L2.upd H p (.lst vs)) (h ++ [.lst xs]) ∧ Grow H ι (L2.upd H p (.lst vs)) (ι ++ [p]) := by
  have np : ∀ a ∈ ι, a ≠ p := fun a ha e => by
    obtain ⟨o', q, _⟩ := r.cellsOk a ha
    rw [e, n] at q; cases q
  have g : Grow H ι (L2.upd H p (.lst vs)) (ι ++ [p]) := ⟨fun a o' e _ => by rw [upd_ne (ne_of_none e n)]; exact e, ⟨[p], rfl⟩, fun a h => by
    rcases List.mem_append.mp h with h | h
    · exact .inl h
    · have e : a = p := by simpa using h
      rw [e]; exact .inr n⟩
  refine ⟨⟨by simp [r.len], ?_, fun k a c e1 e2 => ?_, fun a ha => ?_, fun a fa => ?_⟩, g⟩
  · rw [List.nodup_append]
    refine ⟨r.nd, by simp, fun a ha b hb => ?_⟩
    have e : b = p := by simpa using hb
    rw [e]; exact np a ha
  · by_cases hk : k < ι.length
    · rw [List.getElem?_append_left hk] at e1
      rw [List.getElem?_append_left (by rw [← r.len]; exact hk)] at e2
      refine CR.mono g r.cellsOk (fun _ z => .inl z) ?_ (r.cells k a c e1 e2)
      rw [upd_ne (np a (List.mem_of_getElem? e1))]
    · rw [List.getElem?_append_right (by omega)] at e1
      rw [List.getElem?_append_right (by rw [← r.len]; omega)] at e2
      have k0 : k - ι.length = 0 := by
        have := (List.getElem?_eq_some_iff.mp e1).1
        simp at this; omega
      rw [k0] at e1
      rw [← r.len, k0] at e2
      simp at e1 e2
      subst e1 e2
      exact ⟨vs, upd_same, VRs.up g r.cellsOk s⟩
  · rcases List.mem_append.mp ha with ha | ha
    · exact r.own a ha
    · have e : a = p := by simpa using ha
      rw [e]; exact nf
  · obtain ⟨o', q⟩ := r.frn a fa
    exact ⟨o', by rw [upd_ne (ne_of_none q n)]; exact q⟩
theorem Rel.nof {h : Hpp} (r : Rel G F ι H h) {p : Addr} (n : H p = none) : ¬ F p := fun z => by
  obtain ⟨o, e⟩ := r.frn p z
  rw [n] at e; cases e
/-- a cell is written -/
theorem Rel.set {h : Hpp} {k : Nat} {p : Addr} {xs : List D} {vs : List V} (r : Rel G F ι H h) (hk : ι[k]? = some p) (s : VRs G F ι H xs vs) :
    Rel G F ι (L2.upd H p (.lst vs)) (h.set k (.lst xs)) ∧ Grow H ι (L2.upd H p (.lst vs)) ι := by
  have hp : p ∈ ι := List.mem_of_getElem? hk
  have g : Grow H ι (L2.upd H p (.lst vs)) ι := ⟨fun a o' e hn => by rw [upd_ne (fun z => hn (by rw [z]; exact hp))]; exact e, ⟨[], by simp⟩, fun _ h => .inl h⟩
  have hlt : k < h.length := by rw [← r.len]; exact (List.getElem?_eq_some_iff.mp hk).1
  refine ⟨⟨by simp [r.len], r.nd, fun j a c e1 e2 => ?_, r.own, fun a fa => ?_⟩, g⟩
  · by_cases hj : j = k
    · subst hj
      rw [hk] at e1; cases e1
      rw [List.getElem?_set_self hlt] at e2
      cases e2
      exact ⟨vs, upd_same, VRs.up g r.cellsOk s⟩
    · rw [List.getElem?_set_ne (Ne.symm hj)] at e2
      have ne : a ≠ p := fun z => hj (by
        obtain ⟨h1, q1⟩ := List.getElem?_eq_some_iff.mp e1
        obtain ⟨h2, q2⟩ := List.getElem?_eq_some_iff.mp hk
        exact (List.getElem_inj r.nd).mp (q1.trans (z.trans q2.symm)))
      refine CR.mono g r.cellsOk (fun _ z => .inl z) ?_ (r.cells j a c e1 e2)
      rw [upd_ne ne]
  · obtain ⟨o', q⟩ := r.frn a fa
    by_cases e : a = p
    · subst e; exact ⟨_, upd_same⟩
    · exact ⟨o', by rw [upd_ne e]; exact q⟩
/-- what a value's row is, told by the model -/
theorem VR.lst {h : Hpp} {d : D} {v : V} {xs : List D} (r : Rel G F ι H h) (s : VR G F ι H d v) (e : lstOf d h = some xs) : ∃ a vs, v = .ref a ∧ H a = some (.lst vs) ∧ VRs G F ι H xs vs := by
  cases d with
  | fl ys =>
    have e' : ys = xs := by simpa [lstOf] using e
    subst e'
    obtain ⟨a, vs, q, ⟨t, _⟩, u⟩ := s
    exact ⟨a, vs, q, t, u⟩
  | ref n =>
    obtain ⟨a, q, i⟩ := s
    cases hn : h[n]? with
    | none => simp [lstOf, hn] at e
    | some c =>
      cases c with
      | lst ys =>
        have e' : ys = xs := by simpa [lstOf, hn] using e
        subst e'
        obtain ⟨vs, t, u⟩ := r.cells n a _ i hn
        exact ⟨a, vs, q, t, u⟩
      | dic _ => simp [lstOf, hn] at e
      | obj _ _ => simp [lstOf, hn] at e
  | _ => simp [lstOf] at e
theorem VR.seq {h : Hpp} {d : D} {v : V} {xs : List D} (r : Rel G F ι H h) (s : VR G F ι H d v) (e : seqOf d h = some xs) : ∃ a vs, v = .ref a ∧ (SqL G.K H a vs ∨ SqT G.K H a vs) ∧ VRs G F ι H xs vs := by
  by_cases hl : lstOf d h = some xs
  · obtain ⟨a, vs, q, t, u⟩ := VR.lst r s hl
    exact ⟨a, vs, q, .inl (.inl (.inl t)), u⟩
  · cases d with
    | tup ys =>
      have e' : ys = xs := by simpa [seqOf] using e
      subst e'
      obtain ⟨a, vs, q, t, u⟩ := s
      exact ⟨a, vs, q, .inr t, u⟩
    | fl ys => exact absurd (by simpa [seqOf, lstOf] using e) hl
    | ref n => exact absurd (by simpa [seqOf, lstOf] using e) hl
    | sc is =>
      have e' : is.map D.int = xs := by simpa [seqOf] using e
      subst e'
      obtain ⟨a, q, t⟩ := s
      refine ⟨a, _, q, .inl ?_, VRs.ints⟩
      rcases t with t | ⟨t, _⟩
      · exact .inr t
      · exact .inl t
    | _ => simp [seqOf] at e
end
/-! ### outcomes -/
def Post {α : Type} (r : R α) (O : α → Hpp → Prop) (E : Nat → Hpp → Prop) : Prop := match r with
  | .ok a h => O a h
  | .er c h => E c h
  | .no => False
theorem Post.bind {α β : Type} {r : R α} {f : α → Hpp → R β} {O : β → Hpp → Prop} {E : Nat → Hpp → Prop} (p : Post (r.bind f) O E) : Post r (fun a h => Post (f a h) O E) E := by
  cases r with
  | ok a h => exact p
  | er c h => exact p
  | no => exact p
theorem Post.imp {α : Type} {r : R α} {O O' : α → Hpp → Prop} {E E' : Nat → Hpp → Prop} (p : Post r O E) (h : ∀ a h, O a h → O' a h) (e : ∀ c h, E c h → E' c h) : Post r O' E' := by
  cases r with
  | ok a _ => exact h _ _ p
  | er c _ => exact e _ _ p
  | no => exact p
theorem Post.opt {α : Type} {o : Option α} {h : Hpp} {O : α → Hpp → Prop} {E : Nat → Hpp → Prop} (p : Post (opt o h) O E) : ∃ a, o = some a ∧ O a h := by
  cases o with
  | none => exact p.elim
  | some a => exact ⟨a, rfl, p⟩
/-- what is wanted behind an expression, from the state (H, ι) on -/
def okp (G : Ge) (F : Addr → Prop) (ι : List Addr) (H : Hp) (Q : VK) : D → Hpp → Prop := fun d h' => ∀ v H' ι', Grow H ι H' ι' → Rel G F ι' H' h' → VR G F ι' H' d v → Q v H'
def okg {α : Type} (G : Ge) (F : Addr → Prop) (ι : List Addr) (H : Hp) (Q : α → Hp → List Addr → Prop) : α → Hpp → Prop := fun d h' => ∀ H' ι', Grow H ι H' ι' → Rel G F ι' H' h' → Q d H' ι'
theorem okp.from {G : Ge} {F : Addr → Prop} {ι ι1 : List Addr} {H H1 : Hp} {Q : VK} {d : D} {h' : Hpp} (g : Grow H ι H1 ι1) (p : okp G F ι H Q d h') : okp G F ι1 H1 Q d h' := fun v H' ι' g' r' s' => p v H' ι' (g.trans g') r' s'
/-! ### the judgements with the widest reading -/
def SE (X : Cx) (e : Expr) : TE := fun σ H Q => ∀ pins s, Inv X pins σ H s → wpAny (model X.prog X.w) X.A (eval e X.env) (EP X pins σ Q) X.xe s
def STt (X : Cx) (e : Expr) : TT := fun σ H Q => ∀ pins s, Inv X pins σ H s → wpAny (model X.prog X.w) X.A (isTrue e X.env (eval e X.env)) (TP X pins σ Q) X.xe s
def SA (X : Cx) (es : List Expr) : TA := fun σ H Q => ∀ pos pins s, Inv X pins σ H s → wpAny (model X.prog X.w) X.A (spliced (backTo pos (starEach es X.env))) (AP X pins σ Q) X.xe s
def SI (X : Cx) (tg it : Expr) : TI := fun σ H R => ∀ pins s, Inv X pins σ H s → wpAny (model X.prog X.w) X.A (eval it X.env) (fun v s1 => wpAny (model X.prog X.w) X.A (pyIter v) (PIE X pins σ tg R) X.xe s1) X.xe s
def SSt (X : Cx) (st : Stmt) : TS := fun D σ H => ∀ pins s, Inv X pins σ H s → wpAny (model X.prog X.w) X.A (exec st X.env) (SP X pins D) X.xe s
def SSs (X : Cx) (st : List Stmt) : TS := fun D σ H => ∀ pins s, Inv X pins σ H s → wpAny (model X.prog X.w) X.A (execs st X.env) (SP X pins D) X.xe s
theorem pSE (X : Cx) (e : Expr) : PE X e (SE X e) := ⟨fun pins s _ _ _ I h => h pins s I⟩
theorem pST (X : Cx) (e : Expr) : PT X e (STt X e) := ⟨fun pins s _ _ _ I h => h pins s I⟩
theorem pSA (X : Cx) (es : List Expr) : PA X es (SA X es) := ⟨fun pos pins s _ _ _ I h => h pos pins s I⟩
theorem pSI (X : Cx) (tg it : Expr) : PI X tg it (SI X tg it) := ⟨fun pins s _ _ _ I h => h pins s I⟩
theorem pSS (X : Cx) (st : Stmt) : PS X st (SSt X st) := ⟨fun pins s _ _ _ I h => h pins s I⟩
theorem pSSs (X : Cx) (st : List Stmt) : PSs X st (SSs X st) := ⟨fun pins s _ _ _ I h => h pins s I⟩
theorem SE.of {X : Cx} {e : Expr} {t : TE} {σ : L2.St} {H : Hp} {Q : VK} (p : PE X e t) (h : t σ H Q) : SE X e σ H Q := fun pins s I => p.run pins s σ H Q I h
theorem STt.of {X : Cx} {e : Expr} {t : TT} {σ : L2.St} {H : Hp} {Q : Bool → Hp → Prop} (p : PT X e t) (h : t σ H Q) : STt X e σ H Q := fun pins s I => p.run pins s σ H Q I h
theorem SA.of {X : Cx} {e : List Expr} {t : TA} {σ : L2.St} {H : Hp} {Q : List V → Hp → Prop} (p : PA X e t) (h : t σ H Q) : SA X e σ H Q := fun pos pins s I => p.run pos pins s σ H Q I h
theorem SI.of {X : Cx} {tg e : Expr} {t : TI} {σ : L2.St} {H : Hp} {Q : It → Hp → Prop} (p : PI X tg e t) (h : t σ H Q) : SI X tg e σ H Q := fun pins s I => p.run pins s σ H Q I h
theorem SSt.of {X : Cx} {e : Stmt} {t : TS} {σ : L2.St} {H : Hp} {D : Ends} (p : PS X e t) (h : t D σ H) : SSt X e D σ H := fun pins s I => p.run pins s σ H D I h
theorem SSs.of {X : Cx} {e : List Stmt} {t : TS} {σ : L2.St} {H : Hp} {D : Ends} (p : PSs X e t) (h : t D σ H) : SSs X e D σ H := fun pins s I => p.run pins s σ H D I h
theorem SE.mono {X : Cx} {e : Expr} {σ : L2.St} {H : Hp} {Q Q' : VK} (h : SE X e σ H Q) (q : ∀ v H', Q v H' → Q' v H') : SE X e σ H Q' := fun pins s I =>
  wpAny_mono (h pins s I) (fun _ _ ⟨v, H', I', r, z⟩ => ⟨v, H', I', r, q v H' z⟩) fun _ _ z => z
end PL
end
section
set_option Elab.async false
set_option linter.all false
set_option maxRecDepth 100000
set_option maxHeartbeats 1000000
/-! PLS2: the operators' readings. -/
namespace PL
open PySem PySem.Spec PyProof.Rows L2
theorem line_eq : sizeLine = line := sizeLine_eq
section
variable {G : Ge} {F : Addr → Prop} {ι : List Addr} {H : Hp} {Q : VK} {E : Nat → Hpp → Prop} {h : Hpp}
theorem same_ok {d : D} {v : V} (r : Rel G F ι H h) (p : Post (R.ok d h) (okp G F ι H Q) E) (s : VR G F ι H d v) : Q v H := p v H ι Grow.refl r s
theorem new_ok {th : Bool} {xs : List D} {vs : List V} {p : Addr} (r : Rel G F ι H h) (s : VRs G F ι H xs vs) (P : Post (new th xs h) (okp G F ι H Q) E) (n : H p = none) : Q (.ref p) (L2.upd H p (.lst vs)) := by
  cases th with
  | true =>
    obtain ⟨r', g⟩ := r.cell n (r.nof n) s
    refine P (.ref p) _ (ι ++ [p]) g r' ⟨p, rfl, ?_⟩
    rw [List.getElem?_append_right (by rw [r.len]; exact Nat.le_refl _), r.len]
    simp
  | false =>
    obtain ⟨r', g⟩ := r.upd (o := .lst vs) n
    refine P (.ref p) _ ι g r' ⟨p, vs, rfl, ⟨upd_same, fun hp => ?_, r.nof n⟩, VRs.up g r.cellsOk s⟩
    obtain ⟨o, e, _⟩ := r.cellsOk p hp
    rw [n] at e; cases e
theorem tup_ok {xs : List D} {vs : List V} {p : Addr} (r : Rel G F ι H h) (s : VRs G F ι H xs vs) (P : Post (R.ok (D.tup xs) h) (okp G F ι H Q) E) (n : H p = none) : Q (.ref p) (L2.upd H p (.tup vs)) := by
  obtain ⟨r', g⟩ := r.upd (o := .tup vs) n
  exact P (.ref p) _ ι g r' ⟨p, vs, rfl, .inl (.inl upd_same), VRs.up g r.cellsOk s⟩
end
/-! ### data to be compared -/
mutual
def toPD : D → PyData
  | .non => .none
  | .bl b => .bool b
  | .int i => .int i
  | .str s => .str s
  | .tup xs => .tuple (toPDs xs)
  | .fl xs => .list (toPDs xs)
  | _ => .none
def toPDs : List D → List PyData
  | [] => []
  | x :: xs => toPD x :: toPDs xs
end
mutual
theorem fit_lay : ∀ (n : Nat) (d : D), fit n d = true → (toPD d).canLay0 = true ∧ (toPD d).depth ≤ n
  | n, .non, _ => by cases n <;> simp [toPD, PyData.canLay0, PyData.depth]
  | n, .bl _, _ => by cases n <;> simp [toPD, PyData.canLay0, PyData.depth]
  | n, .int _, _ => by cases n <;> simp [toPD, PyData.canLay0, PyData.depth]
  | n, .str s, h => by
    have h : PyData.strOk s = true := by cases n <;> simpa [fit] using h
    simp [toPD, PyData.canLay0, PyData.depth, h]
  | 0, .tup _, h => by simp [fit] at h
  | 0, .fl _, h => by simp [fit] at h
  | n + 1, .tup xs, h => by
    have q := fitL_lay n xs (by simpa [fit] using h)
    simp only [toPD, PyData.canLay0, PyData.depth]
    exact ⟨q.1, by omega⟩
  | n + 1, .fl xs, h => by
    have q := fitL_lay n xs (by simpa [fit] using h)
    simp only [toPD, PyData.canLay0, PyData.depth]
    exact ⟨q.1, by omega⟩
  | n, .ref _, h => by cases n <;> simp [fit] at h
  | n, .fn _, h => by cases n <;> simp [fit] at h
  | n, .sc _, h => by cases n <;> simp [fit] at h
theorem fitL_lay : ∀ (n : Nat) (ds : List D), fitL n ds = true → PyData.canLayAll0 (toPDs ds) = true ∧ PyData.depthAll (toPDs ds) ≤ n
  | n, [], _ => by simp [toPDs, PyData.canLayAll0, PyData.depthAll]
  | n, x :: xs, h => by
    rw [fitL, Bool.and_eq_true] at h
    have q1 := fit_lay n x h.1
    have q2 := fitL_lay n xs h.2
    simp only [toPDs, PyData.canLayAll0, PyData.depthAll, Bool.and_eq_true]
    exact ⟨⟨q1.1, q2.1⟩, by omega⟩
end
theorem fit_shaped {d : D} (h : fit 60 d = true) : SeqAt.shaped (toPD d) = true := by
  have q := fit_lay 60 d h
  show ((toPD d).canLay0 && decide ((toPD d).depth ≤ 64)) = true
  rw [Bool.and_eq_true]
  exact ⟨q.1, decide_eq_true (by omega)⟩
mutual
theorem deq_eqv : ∀ (n m : Nat) (d e : D), fit n d = true → fit m e = true → deq d e = PyData.eqv (toPD d) (toPD e)
  | n, m, .tup xs, .tup ys, h1, h2 => by
    cases n with
    | zero => simp [fit] at h1
    | succ n => cases m with
      | zero => simp [fit] at h2
      | succ m =>
        simp only [deq, toPD, PyData.eqv]
        exact deqL_eqv n m xs ys (by simpa [fit] using h1) (by simpa [fit] using h2)
  | n, m, .fl xs, .fl ys, h1, h2 => by
    cases n with
    | zero => simp [fit] at h1
    | succ n => cases m with
      | zero => simp [fit] at h2
      | succ m =>
        simp only [deq, toPD, PyData.eqv]
        exact deqL_eqv n m xs ys (by simpa [fit] using h1) (by simpa [fit] using h2)
  | n, _, .ref _, _, h1, _ => by cases n <;> simp [fit] at h1
  | n, _, .fn _, _, h1, _ => by cases n <;> simp [fit] at h1
  | n, _, .sc _, _, h1, _ => by cases n <;> simp [fit] at h1
  | _, m, _, .ref _, _, h1 => by cases m <;> simp [fit] at h1
  | _, m, _, .fn _, _, h1 => by cases m <;> simp [fit] at h1
  | _, m, _, .sc _, _, h1 => by cases m <;> simp [fit] at h1
  | _, _, .non, .non, _, _ => by simp [deq, toPD, PyData.eqv]
  | _, _, .non, .bl _, _, _ => by simp [deq, toPD, PyData.eqv]
  | _, _, .non, .int _, _, _ => by simp [deq, toPD, PyData.eqv]
  | _, _, .non, .str _, _, _ => by simp [deq, toPD, PyData.eqv]
  | _, _, .non, .tup _, _, _ => by simp [deq, toPD, PyData.eqv]
  | _, _, .non, .fl _, _, _ => by simp [deq, toPD, PyData.eqv]
  | _, _, .bl _, .non, _, _ => by simp [deq, toPD, PyData.eqv]
  | _, _, .bl _, .bl _, _, _ => by simp [deq, toPD, PyData.eqv]
  | _, _, .bl _, .int _, _, _ => by simp [deq, toPD, PyData.eqv]
  | _, _, .bl _, .str _, _, _ => by simp [deq, toPD, PyData.eqv]
  | _, _, .bl _, .tup _, _, _ => by simp [deq, toPD, PyData.eqv]
  | _, _, .bl _, .fl _, _, _ => by simp [deq, toPD, PyData.eqv]
  | _, _, .int _, .non, _, _ => by simp [deq, toPD, PyData.eqv]
  | _, _, .int _, .bl _, _, _ => by simp [deq, toPD, PyData.eqv]
  | _, _, .int _, .int _, _, _ => by simp [deq, toPD, PyData.eqv]
  | _, _, .int _, .str _, _, _ => by simp [deq, toPD, PyData.eqv]
  | _, _, .int _, .tup _, _, _ => by simp [deq, toPD, PyData.eqv]
  | _, _, .int _, .fl _, _, _ => by simp [deq, toPD, PyData.eqv]
  | _, _, .str _, .non, _, _ => by simp [deq, toPD, PyData.eqv]
  | _, _, .str _, .bl _, _, _ => by simp [deq, toPD, PyData.eqv]
  | _, _, .str _, .int _, _, _ => by simp [deq, toPD, PyData.eqv]
  | _, _, .str _, .str _, _, _ => by simp [deq, toPD, PyData.eqv]
  | _, _, .str _, .tup _, _, _ => by simp [deq, toPD, PyData.eqv]
  | _, _, .str _, .fl _, _, _ => by simp [deq, toPD, PyData.eqv]
  | _, _, .tup _, .non, _, _ => by simp [deq, toPD, PyData.eqv]
  | _, _, .tup _, .bl _, _, _ => by simp [deq, toPD, PyData.eqv]
  | _, _, .tup _, .int _, _, _ => by simp [deq, toPD, PyData.eqv]
  | _, _, .tup _, .str _, _, _ => by simp [deq, toPD, PyData.eqv]
  | _, _, .tup _, .fl _, _, _ => by simp [deq, toPD, PyData.eqv]
  | _, _, .fl _, .non, _, _ => by simp [deq, toPD, PyData.eqv]
  | _, _, .fl _, .bl _, _, _ => by simp [deq, toPD, PyData.eqv]
  | _, _, .fl _, .int _, _, _ => by simp [deq, toPD, PyData.eqv]
  | _, _, .fl _, .str _, _, _ => by simp [deq, toPD, PyData.eqv]
  | _, _, .fl _, .tup _, _, _ => by simp [deq, toPD, PyData.eqv]
theorem deqL_eqv : ∀ (n m : Nat) (d e : List D), fitL n d = true → fitL m e = true → deqL d e = PyData.eqvAll (toPDs d) (toPDs e)
  | _, _, [], [], _, _ => rfl
  | _, _, [], _ :: _, _, _ => rfl
  | _, _, _ :: _, [], _, _ => rfl
  | n, m, x :: xs, y :: ys, h1, h2 => by
    rw [fitL, Bool.and_eq_true] at h1 h2
    simp only [deqL, toPDs, PyData.eqvAll]
    rw [deq_eqv n m x y h1.1 h2.1, deqL_eqv n m xs ys h1.2 h2.2]
end
section
variable {G : Ge} {F : Addr → Prop} {ι : List Addr} {H : Hp} {h : Hpp}
mutual
theorem dp_of : ∀ (n : Nat) (d : D) (v : V), fit n d = true → VR G F ι H d v → Dp G.K H v (toPD d)
  | _, .non, _, _, s => by cases (show _ = V.non from s); exact .non
  | _, .bl b, _, _, s => by cases (show _ = V.bl b from s); exact .bl b
  | _, .int i, _, _, s => by cases (show _ = V.int i from s); exact .int i
  | _, .str x, _, _, s => by cases (show _ = V.str x from s); exact .str x
  | 0, .tup _, _, h, _ => by simp [fit] at h
  | 0, .fl _, _, h, _ => by simp [fit] at h
  | n + 1, .tup xs, _, h, s => by
    obtain ⟨a, vs, rfl, t, u⟩ := s
    exact .tup t (dpL_of n xs vs (by simpa [fit] using h) u)
  | n + 1, .fl xs, _, h, s => by
    obtain ⟨a, vs, rfl, ⟨t, _⟩, u⟩ := s
    exact .lst (SqL.of t) (dpL_of n xs vs (by simpa [fit] using h) u)
  | n, .ref _, _, h, _ => by cases n <;> simp [fit] at h
  | n, .fn _, _, h, _ => by cases n <;> simp [fit] at h
  | n, .sc _, _, h, _ => by cases n <;> simp [fit] at h
theorem dpL_of : ∀ (n : Nat) (ds : List D) (vs : List V), fitL n ds = true → VRs G F ι H ds vs → DpAll G.K H vs (toPDs ds)
  | _, [], _, _, s => by cases s; exact .nil
  | n, x :: xs, _, h, s => by
    rw [fitL, Bool.and_eq_true] at h
    obtain ⟨v, t, rfl, s1, s2⟩ := s
    exact .cons (dp_of n x v h.1 s1) (dpL_of n xs t h.2 s2)
end
theorem dp_res {d : D} {v : V} (r : Rel G F ι H h) (f : fit 60 (res d h) = true) (s : VR G F ι H d v) : Dp G.K H v (toPD (res d h)) := by
  cases d with
  | ref n =>
    obtain ⟨a, rfl, i⟩ := s
    cases e : h[n]? with
    | none => simp [res, e, fit] at f
    | some c =>
      have cr := r.cells n a c i e
      cases c with
      | lst xs =>
        obtain ⟨vs, t, u⟩ := cr
        simp only [res, e] at f ⊢
        exact .lst (SqL.of t) (dpL_of 59 xs vs (by simpa [fit] using f) u)
      | dic _ => exact cr.elim
      | obj _ _ => exact cr.elim
  | non => exact dp_of 60 _ _ f s
  | bl _ => exact dp_of 60 _ _ f s
  | int _ => exact dp_of 60 _ _ f s
  | str _ => exact dp_of 60 _ _ f s
  | tup _ => exact dp_of 60 _ _ f s
  | fl _ => exact dp_of 60 _ _ f s
  | fn _ => exact dp_of 60 _ _ f s
  | sc _ => exact dp_of 60 _ _ f s
theorem pyEq_dp {d e : D} {v u : V} {k : Bool} (r : Rel G F ι H h) (s : VR G F ι H d v) (t : VR G F ι H e u) (q : pyEq d e h = some k) :
    ∃ p1 p2, Dp G.K H v p1 ∧ Dp G.K H u p2 ∧ SeqAt.shaped p1 = true ∧ SeqAt.shaped p2 = true ∧ k = PyData.eqv p1 p2 := by
  unfold pyEq at q
  by_cases c : (fit 60 (res d h) && fit 60 (res e h)) = true
  · rw [if_pos c] at q
    rw [Bool.and_eq_true] at c
    cases q
    exact ⟨_, _, dp_res r c.1 s, dp_res r c.2 t, fit_shaped c.1, fit_shaped c.2, deq_eqv 60 60 _ _ c.1 c.2⟩
  · rw [if_neg c] at q; cases q
end
end PL
end
section
set_option Elab.async false
set_option linter.all false
set_option maxRecDepth 100000
set_option maxHeartbeats 1000000
/-! PLS3: the operators' readings, by values. -/
namespace PL
open PySem PySem.Spec PyProof.Rows L2
def pyOp : Bop → Operator
  | .add => .Add
  | .sub => .Sub
  | .mul => .Mult
  | .fdiv => .FloorDiv
  | .mod => .Mod
def rBop (G : Ge) (op : Bop) (th : Bool) : R2 := fun x y H Q => ∃ F ι h a b E, Rel G F ι H h ∧ VR G F ι H a x ∧ VR G F ι H b y ∧ Post (bop op th a b h) (okp G F ι H Q) E
theorem mulOk_ok {a b : Int} (h : mulOk a b = true) : IntMulOk a b := by
  unfold mulOk at h
  rw [Bool.or_eq_true, Bool.or_eq_true] at h
  rcases h with (h | h) | h
  · have h := of_decide_eq_true h
    exact .of_left (intBits_le_64 (by omega) (by omega))
  · have h := of_decide_eq_true h
    exact .of_right (intBits_le_64 (by omega) (by omega))
  · have h := of_decide_eq_true h
    have hb : ∀ x : Int, Builtin.Int.intBits x ≤ x.natAbs.log2 + 1 := fun x => by
      unfold Builtin.Int.intBits
      split <;> omega
    unfold IntMulOk
    have : Builtin.Int.intTooBig (Builtin.Int.intBits a + Builtin.Int.intBits b) = false := by
      unfold Builtin.Int.intTooBig bitsLine
      have h1 := hb a
      have h2 := hb b
      exact decide_eq_false (by omega)
    rw [this]; simp
section
variable {X : Cx}
theorem op_mulW : OpR X (binaryOp .Mult) (rI IntMulOk fun i j => .int (i * j)) := opI fun _ _ _ _ _ _ _ hc q => mul_int q hc
theorem op_fdivW : OpR X (binaryOp .FloorDiv) (rI (fun _ j => j ≠ 0 ∧ j.natAbs.log2 < 9000) fun i j => .int (i.fdiv j)) := opI fun _ _ _ _ _ _ _ hc q => floordiv_int hc.1 q (.inl (PyProof.noPylong_of_log2 hc.2))
theorem iop_mulW : OpR X (inplaceOp .Mult) (rI IntMulOk fun i j => .int (i * j)) := opI fun _ _ _ _ _ _ _ hc q => imul_int q hc
theorem iop_fdivW : OpR X (inplaceOp .FloorDiv) (rI (fun _ j => j ≠ 0 ∧ j.natAbs.log2 < 9000) fun i j => .int (i.fdiv j)) := opI fun _ _ _ _ _ _ _ hc q => ifloordiv_int hc.1 q (.inl (PyProof.noPylong_of_log2 hc.2))
theorem iop_modW : OpR X (inplaceOp .Mod) (rI (fun _ j => j ≠ 0) fun i j => .int (i.fmod j)) := opI fun _ _ _ _ _ _ _ hc q => imod_int hc q
theorem flat_nil {α : Type} {n : Nat} {xs : List α} (h : xs = []) : (List.replicate n xs).flatten = [] := by
  subst h
  induction n with
  | zero => rfl
  | succ n ih => rw [List.replicate_succ, List.flatten_cons, ih]; rfl
theorem lst_cat {th : Bool} {F : Addr → Prop} {ι : List Addr} {H : Hp} {h : Hpp} {G : Ge} {a b : D} {x y : V} {Q : VK} {E : Nat → Hpp → Prop} (r : Rel G F ι H h) (ra : VR G F ι H a x) (rb : VR G F ι H b y) (P : Post (bopL .add th a b h) (okp G F ι H Q) E) : rCat x y H Q := by
  unfold bopL at P
  simp only at P
  cases e1 : lstOf a h with
  | none => rw [e1] at P; exact P.elim
  | some xs => cases e2 : lstOf b h with
    | none => rw [e1, e2] at P; exact P.elim
    | some ys =>
      rw [e1, e2] at P
      simp only at P
      by_cases c : xs.length + ys.length ≤ line
      · rw [if_pos c] at P
        obtain ⟨p, vs, rfl, h1, s1⟩ := VR.lst r ra e1
        obtain ⟨q, us, rfl, h2, s2⟩ := VR.lst r rb e2
        exact ⟨p, q, vs, us, rfl, rfl, h1, h2, by rw [VRs.length s1, VRs.length s2, line_eq]; exact c, fun z n => new_ok r (s1.append s2) P n⟩
      · rw [if_neg c] at P; exact P.elim
theorem lst_rep {th : Bool} {F : Addr → Prop} {ι : List Addr} {H : Hp} {h : Hpp} {G : Ge} {a b : D} {x y : V} {Q : VK} {E : Nat → Hpp → Prop} (r : Rel G F ι H h) (ra : VR G F ι H a x) (rb : VR G F ι H b y) (P : Post (bopL .mul th a b h) (okp G F ι H Q) E) : rRep x y H Q := by
  unfold bopL at P
  simp only at P
  cases e1 : lstOf a h with
  | none => rw [e1] at P; exact P.elim
  | some xs => cases b with
    | int k =>
      rw [e1] at P
      simp only at P
      by_cases c : -(2 ^ 63) ≤ k ∧ k < 2 ^ 63 ∧ xs.length * k.toNat ≤ line
      · rw [if_pos c] at P
        obtain ⟨p, vs, rfl, h1, s1⟩ := VR.lst r ra e1
        exact ⟨p, k, vs, rfl, rb, h1, c.1, c.2.1, by rw [VRs.length s1, line_eq]; exact c.2.2, fun z n => new_ok r (s1.rep _) P n⟩
      · rw [if_neg c] at P; exact P.elim
    | _ => rw [e1] at P; exact P.elim
theorem op_bop (fa : Nat → Addr) (nf nx : Nat) (op : Bop) (th : Bool) : OpR X (binaryOp (pyOp op)) (rBop ⟨X.K, fa, nf, nx⟩ op th) := by
  intro pins s σ H x y v u Q I rx ry ⟨F, ι, h, a, b, E, r, ra, rb, P⟩
  unfold bop at P
  split at P
  · rename_i i j
    cases op with
    | add => exact op_add pins s σ H _ _ v u Q I rx ry ⟨i, j, ra, rb, same_ok r P rfl⟩
    | sub => exact op_sub pins s σ H _ _ v u Q I rx ry ⟨i, j, ra, rb, same_ok r P rfl⟩
    | mul =>
      simp only at P
      by_cases c : mulOk i j = true
      · rw [if_pos c] at P
        exact op_mulW pins s σ H _ _ v u Q I rx ry ⟨i, j, ra, rb, mulOk_ok c, same_ok r P rfl⟩
      · rw [if_neg c] at P; exact P.elim
    | fdiv =>
      simp only at P
      by_cases c : divOk j = true
      · rw [if_pos c] at P
        unfold divOk at c
        rw [Bool.and_eq_true] at c
        exact op_fdivW pins s σ H _ _ v u Q I rx ry ⟨i, j, ra, rb, ⟨of_decide_eq_true c.1, of_decide_eq_true c.2⟩, same_ok r P rfl⟩
      · rw [if_neg c] at P; exact P.elim
    | mod =>
      simp only at P
      by_cases c : j ≠ 0
      · rw [if_pos c] at P
        exact op_modN pins s σ H _ _ v u Q I rx ry ⟨i, j, ra, rb, c, same_ok r P rfl⟩
      · rw [if_neg c] at P; exact P.elim
  · rename_i xs ys
    cases op with
    | add =>
      simp only at P
      by_cases c : xs.length + ys.length ≤ line
      · rw [if_pos c] at P
        obtain ⟨p, vs, rfl, t1, s1⟩ := ra
        obtain ⟨q, us, rfl, t2, s2⟩ := rb
        refine op_catA pins s σ H _ _ v u Q I rx ry ⟨p, q, vs, us, rfl, rfl, t1, t2, by rw [VRs.length s1, VRs.length s2, line_eq]; exact c, fun e => ?_, fun _ e => ?_, fun _ _ z n => ?_⟩
        · subst e
          have l := VRs.length s1
          have l : xs = [] := List.eq_nil_of_length_eq_zero l.symm
          subst l
          exact same_ok r P ⟨q, us, rfl, t2, s2⟩
        · subst e
          have l := VRs.length s2
          have l : ys = [] := List.eq_nil_of_length_eq_zero l.symm
          subst l
          rw [List.append_nil] at P
          exact same_ok r P ⟨p, vs, rfl, t1, s1⟩
        · exact tup_ok r (s1.append s2) P n
      · rw [if_neg c] at P; exact P.elim
    | _ => exact P.elim
  · rename_i xs k
    cases op with
    | mul =>
      simp only at P
      by_cases c : 2 ≤ k ∧ k ≤ 1000 ∧ xs.length ≤ 1000 ∧ xs.isEmpty = false
      · rw [if_pos c] at P
        obtain ⟨c1, c2, c3, c4⟩ := c
        obtain ⟨p, vs, rfl, t1, s1⟩ := ra
        have l := VRs.length s1
        refine op_repT pins s σ H _ _ v u Q I rx ry ⟨p, k, vs, rfl, rb, t1, fun e => ?_, c1, c2, by rw [l]; exact c3, fun z n => tup_ok r (s1.rep _) P n⟩
        rw [e] at l
        have l : xs = [] := List.eq_nil_of_length_eq_zero l.symm
        rw [l] at c4; cases c4
      · rw [if_neg c] at P; exact P.elim
    | _ => exact P.elim
  · rename_i i j
    cases op with
    | add =>
      simp only at P
      by_cases c : i.length + j.length ≤ line
      · rw [if_pos c] at P
        exact op_add_str pins s σ H _ _ v u Q I rx ry ⟨i, j, ra, rb, by rw [line_eq]; exact c, same_ok r P rfl⟩
      · rw [if_neg c] at P; exact P.elim
    | _ => exact P.elim
  · cases op with
    | add => exact op_cat pins s σ H _ _ v u Q I rx ry (lst_cat r ra rb P)
    | mul => exact op_rep pins s σ H _ _ v u Q I rx ry (lst_rep r ra rb P)
    | _ => exact P.elim
/-- a op= b of numbers, texts, tuples -/
def rIop (G : Ge) (op : Bop) : R2 := fun x y H Q => ∃ F ι h a b E, Rel G F ι H h ∧ VR G F ι H a x ∧ VR G F ι H b y ∧ (∃ i j, a = .int i ∧ b = .int j) ∧ Post (bop op false a b h) (okp G F ι H Q) E
theorem op_iop (fa : Nat → Addr) (nf nx : Nat) (op : Bop) : OpR X (inplaceOp (pyOp op)) (rIop ⟨X.K, fa, nf, nx⟩ op) := by
  intro pins s σ H x y v u Q I rx ry ⟨F, ι, h, a, b, E, r, ra, rb, ⟨i, j, ea, eb⟩, P⟩
  subst ea eb
  unfold bop at P
  simp only at P
  cases op with
  | add => exact iop_add pins s σ H _ _ v u Q I rx ry ⟨i, j, ra, rb, same_ok r P rfl⟩
  | sub => exact iop_sub pins s σ H _ _ v u Q I rx ry ⟨i, j, ra, rb, same_ok r P rfl⟩
  | mul =>
    simp only at P
    by_cases c : mulOk i j = true
    · rw [if_pos c] at P
      exact iop_mulW pins s σ H _ _ v u Q I rx ry ⟨i, j, ra, rb, mulOk_ok c, same_ok r P rfl⟩
    · rw [if_neg c] at P; exact P.elim
  | fdiv =>
    simp only at P
    by_cases c : divOk j = true
    · rw [if_pos c] at P
      unfold divOk at c
      rw [Bool.and_eq_true] at c
      exact iop_fdivW pins s σ H _ _ v u Q I rx ry ⟨i, j, ra, rb, ⟨of_decide_eq_true c.1, of_decide_eq_true c.2⟩, same_ok r P rfl⟩
    · rw [if_neg c] at P; exact P.elim
  | mod =>
    simp only at P
    by_cases c : j ≠ 0
    · rw [if_pos c] at P
      exact iop_modW pins s σ H _ _ v u Q I rx ry ⟨i, j, ra, rb, c, same_ok r P rfl⟩
    · rw [if_neg c] at P; exact P.elim
/-! ### comparisons -/
def pyCop : Cop → CmpOp
  | .eq => .Eq
  | .ne => .NotEq
  | .lt => .Lt
  | .le => .LtE
  | .gt => .Gt
  | .ge => .GtE
def rCop (G : Ge) (op : Cop) : R2 := fun x y H Q => ∃ F ι h a b k, Rel G F ι H h ∧ VR G F ι H a x ∧ VR G F ι H b y ∧ cop op a b h = some k ∧ Q (.bl k) H
theorem intsOf_eq : ∀ {xs : List D} {is : List Int}, intsOf xs = some is → xs = is.map D.int
  | [], is, h => by cases h; rfl
  | .int i :: r, is, h => by
    unfold intsOf at h
    cases e : intsOf r with
    | none => rw [e] at h; cases h
    | some js =>
      rw [e] at h; cases h
      rw [intsOf_eq e]; rfl
  | .non :: _, _, h => by cases h
  | .bl _ :: _, _, h => by cases h
  | .str _ :: _, _, h => by cases h
  | .tup _ :: _, _, h => by cases h
  | .fl _ :: _, _, h => by cases h
  | .ref _ :: _, _, h => by cases h
  | .fn _ :: _, _, h => by cases h
  | .sc _ :: _, _, h => by cases h
theorem lexLt_eq : ∀ (xs ys : List Int), lexLt xs ys = HT.lexLt xs ys
  | [], [] => rfl
  | [], _ :: _ => rfl
  | _ :: _, [] => rfl
  | x :: xs, y :: ys => by
    unfold lexLt
    rw [HT.lexLt_cons, lexLt_eq xs ys]
theorem op_cop (fa : Nat → Addr) (nf nx : Nat) (hu : X.A.units + 64 < cLine) (op : Cop) : OpR X (compareOp (pyCop op)) (rCop ⟨X.K, fa, nf, nx⟩ op) := by
  intro pins s σ H x y v u Q I rx ry ⟨F, ι, h, a, b, k, r, ra, rb, P, q⟩
  cases op with
  | eq =>
    obtain ⟨p1, p2, d1, d2, s1, s2, e⟩ := pyEq_dp r ra rb P
    exact op_eqD hu pins s σ H _ _ v u Q I rx ry ⟨p1, p2, d1, d2, s1, s2, by rw [← e]; exact q⟩
  | ne =>
    unfold cop at P
    simp only at P
    cases e : pyEq a b h with
    | none => rw [e] at P; cases P
    | some c =>
      rw [e] at P; cases P
      obtain ⟨p1, p2, d1, d2, s1, s2, e⟩ := pyEq_dp r ra rb e
      exact op_neD hu pins s σ H _ _ v u Q I rx ry ⟨p1, p2, d1, d2, s1, s2, by rw [← e]; exact q⟩
  | lt =>
    unfold cop at P
    simp only at P
    split at P
    · cases P
      exact op_lt pins s σ H _ _ v u Q I rx ry ⟨_, _, ra, rb, q⟩
    · split at P
      · rename_i e1 e2
        cases P
        rw [intsOf_eq e1] at ra
        rw [intsOf_eq e2] at rb
        obtain ⟨p, vs, rfl, t1, s1⟩ := ra
        obtain ⟨p', us, rfl, t2, s2⟩ := rb
        rw [VRs.ints_of s1] at t1
        rw [VRs.ints_of s2] at t2
        exact op_ltT (by omega) pins s σ H _ _ v u Q I rx ry ⟨p, p', _, _, rfl, rfl, t1, t2, by rw [← lexLt_eq]; exact q⟩
      · cases P
    · cases P
  | le =>
    unfold cop at P
    simp only at P
    split at P
    · cases P
      exact op_le pins s σ H _ _ v u Q I rx ry ⟨_, _, ra, rb, q⟩
    · cases P
  | gt =>
    unfold cop at P
    simp only at P
    split at P
    · cases P
      exact op_gt pins s σ H _ _ v u Q I rx ry ⟨_, _, ra, rb, q⟩
    · cases P
  | ge =>
    unfold cop at P
    simp only at P
    split at P
    · cases P
      exact op_ge pins s σ H _ _ v u Q I rx ry ⟨_, _, ra, rb, q⟩
    · cases P
/-- truth -/
theorem tru_of {G : Ge} {F : Addr → Prop} {ι : List Addr} {H : Hp} {h : Hpp} {d : D} {v : V} {k : Bool} (r : Rel G F ι H h) (s : VR G F ι H d v) (e : truthy d h = some k) : TruV G.K v H k := by
  have emp : ∀ {xs : List D} {vs : List V}, VRs G F ι H xs vs → (!xs.isEmpty) = !vs.isEmpty := fun {xs vs} t => by
    have l := VRs.length t
    cases xs <;> cases vs <;> simp at l ⊢
  unfold truthy at e
  split at e
  · cases e; cases (show _ = V.non from s); exact rfl
  · cases e; cases (show _ = V.bl _ from s); exact rfl
  · rename_i i
    cases e; cases (show _ = V.int i from s)
    show decide (i ≠ 0) = (i != 0)
    by_cases c : i = 0 <;> simp [c]
  · rename_i x
    split at e
    · rename_i c
      cases e; cases (show _ = V.str x from s)
      refine ⟨by rw [line_eq]; exact c, ?_⟩
      by_cases c : x.length = 0 <;> simp [c]
    · cases e
  · rename_i xs
    cases e
    obtain ⟨a, vs, rfl, t, u⟩ := s
    exact .inr (.inl ⟨vs, t, emp u⟩)
  · rename_i xs
    cases e
    obtain ⟨a, vs, rfl, ⟨t, _⟩, u⟩ := s
    exact .inl ⟨vs, SqL.of t, emp u⟩
  · rename_i n
    obtain ⟨a, rfl, i⟩ := s
    split at e
    · rename_i xs hn
      cases e
      obtain ⟨vs, t, u⟩ := r.cells n a _ i hn
      exact .inl ⟨vs, SqL.of t, emp u⟩
    · cases e
  · cases e
  · cases e
end
end PL
end
section
set_option Elab.async false
set_option linter.all false
set_option maxRecDepth 100000
set_option maxHeartbeats 1000000
/-! PLS4: built-in functions, items, methods, what is walked. -/
namespace PL
open PySem PySem.Spec PyProof.Rows L2
theorem Post.opt' {α : Type} {o : Option α} {h : Hpp} {O : α → Hpp → Prop} {E : Nat → Hpp → Prop} (p : Post (match o with | some a => R.ok a h | none => R.no) O E) : ∃ a, o = some a ∧ O a h := by
  cases o with
  | none => exact p.elim
  | some a => exact ⟨a, rfl, p⟩
section
variable {G : Ge} {F : Addr → Prop} {ι : List Addr} {H : Hp} {h : Hpp}
theorem VR.ls {d : D} {v : V} {xs : List D} (r : Rel G F ι H h) (s : VR G F ι H d v) (e : lsOf d h = some xs) : ∃ a vs, v = .ref a ∧ SqL G.K H a vs ∧ VRs G F ι H xs vs := by
  cases d with
  | sc is =>
    cases e
    obtain ⟨a, q, t⟩ := s
    refine ⟨a, _, q, ?_, VRs.ints⟩
    rcases t with t | ⟨t, _⟩
    · exact .inr t
    · exact .inl t
  | _ =>
    obtain ⟨a, vs, q, t, u⟩ := VR.lst r s e
    exact ⟨a, vs, q, SqL.of t, u⟩
theorem lstOf_seq {d : D} {xs : List D} (e : lstOf d h = some xs) : seqOf d h = some xs := by
  cases d <;> simp_all [lstOf, seqOf]
theorem blsOf_eq : ∀ {xs : List D} {bs : List Bool}, blsOf xs = some bs → xs = bs.map D.bl
  | [], bs, h => by cases h; rfl
  | .bl b :: r, bs, h => by
    unfold blsOf at h
    cases e : blsOf r with
    | none => rw [e] at h; cases h
    | some js =>
      rw [e] at h; cases h
      rw [blsOf_eq e]; rfl
  | .non :: _, _, h => by cases h
  | .int _ :: _, _, h => by cases h
  | .str _ :: _, _, h => by cases h
  | .tup _ :: _, _, h => by cases h
  | .fl _ :: _, _, h => by cases h
  | .ref _ :: _, _, h => by cases h
  | .fn _ :: _, _, h => by cases h
  | .sc _ :: _, _, h => by cases h
theorem VRs.bls_of : ∀ {bs : List Bool} {vs : List V}, VRs G F ι H (bs.map D.bl) vs → vs = bs.map V.bl
  | [], vs, r => r
  | b :: bs, vs, r => by
    obtain ⟨v, t, rfl, r1, r2⟩ := r
    have r1 : v = .bl b := r1
    rw [r1, VRs.bls_of r2]; rfl
theorem VRs.one_of {d : D} {vs : List V} (r : VRs G F ι H [d] vs) : ∃ v, vs = [v] ∧ VR G F ι H d v := by
  obtain ⟨v, t, rfl, r1, r2⟩ := r
  cases (show t = [] from r2)
  exact ⟨v, rfl, r1⟩
theorem VRs.two_of {d e : D} {vs : List V} (r : VRs G F ι H [d, e] vs) : ∃ v u, vs = [v, u] ∧ VR G F ι H d v ∧ VR G F ι H e u := by
  obtain ⟨v, t, rfl, r1, r2⟩ := r
  obtain ⟨u, rfl, r3⟩ := VRs.one_of r2
  exact ⟨v, u, rfl, r1, r3⟩
theorem maxI_spec : ∀ (m : Int) (r : List Int), (maxI m r = m ∨ maxI m r ∈ r) ∧ m ≤ maxI m r ∧ ∀ y ∈ r, y ≤ maxI m r
  | m, [] => ⟨.inl rfl, Int.le_refl _, fun y hy => by cases hy⟩
  | m, x :: r => by
    obtain ⟨h1, h2, h3⟩ := maxI_spec (if m < x then x else m) r
    unfold maxI
    by_cases c : m < x
    · rw [if_pos c] at h1 h2 h3 ⊢
      refine ⟨.inr ?_, by omega, fun y hy => ?_⟩
      · rcases h1 with e | e
        · rw [e]; exact List.mem_cons_self
        · exact List.mem_cons_of_mem _ e
      · rcases List.mem_cons.mp hy with rfl | hy
        · exact h2
        · exact h3 y hy
    · rw [if_neg c] at h1 h2 h3 ⊢
      refine ⟨?_, h2, fun y hy => ?_⟩
      · rcases h1 with e | e
        · exact .inl e
        · exact .inr (List.mem_cons_of_mem _ e)
      · rcases List.mem_cons.mp hy with rfl | hy
        · omega
        · exact h3 y hy
theorem minI_spec : ∀ (m : Int) (r : List Int), (minI m r = m ∨ minI m r ∈ r) ∧ minI m r ≤ m ∧ ∀ y ∈ r, minI m r ≤ y
  | m, [] => ⟨.inl rfl, Int.le_refl _, fun y hy => by cases hy⟩
  | m, x :: r => by
    obtain ⟨h1, h2, h3⟩ := minI_spec (if x < m then x else m) r
    unfold minI
    by_cases c : x < m
    · rw [if_pos c] at h1 h2 h3 ⊢
      refine ⟨.inr ?_, by omega, fun y hy => ?_⟩
      · rcases h1 with e | e
        · rw [e]; exact List.mem_cons_self
        · exact List.mem_cons_of_mem _ e
      · rcases List.mem_cons.mp hy with rfl | hy
        · exact h2
        · exact h3 y hy
    · rw [if_neg c] at h1 h2 h3 ⊢
      refine ⟨?_, h2, fun y hy => ?_⟩
      · rcases h1 with e | e
        · exact .inl e
        · exact .inr (List.mem_cons_of_mem _ e)
      · rcases List.mem_cons.mp hy with rfl | hy
        · omega
        · exact h3 y hy
end
def rBi (G : Ge) (b : Bi) (th : Bool) : List V → Hp → VK → Prop := fun xs H Q => ∃ F ι h ds E, Rel G F ι H h ∧ VRs G F ι H ds xs ∧ Post (doBi b th ds h) (okp G F ι H Q) E
def biV : Bi → Value
  | .len => .builtin "len"
  | .abs => .builtin "abs"
  | .int => .type "int"
  | .all => .builtin "all"
  | .any => .builtin "any"
  | .tuple => .type "tuple"
  | .list => .type "list"
  | .sum => .builtin "sum"
  | .max => .builtin "max"
  | .min => .builtin "min"
  | .sorted => .builtin "sorted"
  | .dict => .type "dict"
/-- which of them are told here -/
def biOk : Bi → Bool
  | .sorted => false
  | .dict => false
  | _ => true
section
variable {X : Cx}
theorem call_bi (fa : Nat → Addr) (nf nx : Nat) (hc : X.calm = true) (b : Bi) (th : Bool) (ok : biOk b = true) : CallR X (biV b) (rBi ⟨X.K, fa, nf, nx⟩ b th) := by
  intro pins s σ H xs us Q I rx ⟨F, ι, h, ds, E, r, rs, P⟩
  unfold doBi at P
  split at P
  · -- len
    rename_i d
    obtain ⟨v, rfl, rv⟩ := VRs.one_of rs
    split at P
    · rename_i ys e
      obtain ⟨a, vs, rfl, t, u⟩ := VR.seq r rv e
      exact call_len_seq pins s σ H _ us Q I rx ⟨a, vs, rfl, t, same_ok r P (by rw [← VRs.length u]; exact rfl)⟩
    · split at P
      · rename_i kvs e
        -- dicts: not told
        exfalso
        cases d with
        | ref n =>
          obtain ⟨a, rfl, i⟩ := rv
          unfold dicOf at e
          simp only at e
          split at e
          · rename_i hn
            exact (r.cells n a _ i hn).elim
          · cases e
        | _ => cases e
      · split at P
        · split at P
          · rename_i x _ _ c
            exact call_len_str pins s σ H _ us Q I rx ⟨x, by rw [show v = V.str x from rv], by rw [line_eq]; exact c, same_ok r P rfl⟩
          · exact P.elim
        · exact P.elim
  · rename_i i
    obtain ⟨v, rfl, rv⟩ := VRs.one_of rs
    exact call_abs pins s σ H _ us Q I rx ⟨i, by rw [show v = V.int i from rv], same_ok r P rfl⟩
  · rename_i i
    obtain ⟨v, rfl, rv⟩ := VRs.one_of rs
    exact call_int1 pins s σ H _ us Q I rx (.inl ⟨i, by rw [show v = V.int i from rv], same_ok r P rfl⟩)
  · rename_i k
    obtain ⟨v, rfl, rv⟩ := VRs.one_of rs
    exact call_int1 pins s σ H _ us Q I rx (.inr ⟨k, by rw [show v = V.bl k from rv], same_ok r P rfl⟩)
  · rename_i d
    obtain ⟨v, rfl, rv⟩ := VRs.one_of rs
    split at P
    · rename_i ys e
      split at P
      · rename_i bs eb
        obtain ⟨a, vs, rfl, t, u⟩ := VR.lst r rv e
        rw [blsOf_eq eb] at u
        rw [VRs.bls_of u] at t
        exact cr_all hc pins s σ H _ us Q I rx ⟨a, bs, rfl, SqL.of t, same_ok r P rfl⟩
      · exact P.elim
    · exact P.elim
  · rename_i d
    obtain ⟨v, rfl, rv⟩ := VRs.one_of rs
    split at P
    · rename_i ys e
      split at P
      · rename_i bs eb
        obtain ⟨a, vs, rfl, t, u⟩ := VR.lst r rv e
        rw [blsOf_eq eb] at u
        rw [VRs.bls_of u] at t
        exact cr_any hc pins s σ H _ us Q I rx ⟨a, bs, rfl, SqL.of t, same_ok r P rfl⟩
      · exact P.elim
    · exact P.elim
  · rename_i d
    obtain ⟨v, rfl, rv⟩ := VRs.one_of rs
    split at P
    · rename_i ys e
      obtain ⟨a, vs, rfl, t, u⟩ := VR.seq r rv e
      refine call_tuple_of pins s σ H _ us Q I rx ⟨a, vs, rfl, ?_⟩
      rcases t with t | t
      · exact .inl ⟨t, fun l n => tup_ok r u P n⟩
      · exact .inr ⟨t, same_ok r P ⟨a, vs, rfl, t, u⟩⟩
    · exact P.elim
  · rename_i d
    obtain ⟨v, rfl, rv⟩ := VRs.one_of rs
    split at P
    · rename_i ys e
      obtain ⟨a, vs, rfl, t, u⟩ := VR.seq r rv e
      exact call_list_of pins s σ H _ us Q I rx ⟨a, vs, rfl, t, fun l n => new_ok r u P n⟩
    · exact P.elim
  · rename_i d
    obtain ⟨v, rfl, rv⟩ := VRs.one_of rs
    split at P
    · rename_i ys e
      split at P
      · rename_i is eb
        obtain ⟨a, vs, rfl, t, u⟩ := VR.ls r rv e
        rw [intsOf_eq eb] at u
        rw [VRs.ints_of u] at t
        exact cr_sum hc pins s σ H _ us Q I rx ⟨a, is, rfl, t, same_ok r P rfl⟩
      · exact P.elim
    · exact P.elim
  · rename_i i j
    obtain ⟨v, u, rfl, rv, ru⟩ := VRs.two_of rs
    exact call_max2 hc pins s σ H _ us Q I rx ⟨i, j, by rw [show v = V.int i from rv, show u = V.int j from ru], same_ok r P rfl⟩
  · rename_i i j
    obtain ⟨v, u, rfl, rv, ru⟩ := VRs.two_of rs
    exact call_min2 hc pins s σ H _ us Q I rx ⟨i, j, by rw [show v = V.int i from rv, show u = V.int j from ru], same_ok r P rfl⟩
  · rename_i d _
    obtain ⟨v, rfl, rv⟩ := VRs.one_of rs
    split at P
    · rename_i ys e
      split at P
      · rename_i i is eb
        obtain ⟨a, vs, rfl, t, u⟩ := VR.ls r rv e
        rw [intsOf_eq eb] at u
        rw [VRs.ints_of u] at t
        refine cr_max hc pins s σ H _ us Q I rx ⟨a, i :: is, rfl, t, by simp, fun m hm hy => same_ok r P ?_⟩
        obtain ⟨h1, h2, h3⟩ := maxI_spec i is
        have e1 : m ≤ maxI i is := by
          rcases List.mem_cons.mp hm with rfl | hm
          · exact h2
          · exact h3 m hm
        have e2 : maxI i is ≤ m := by
          rcases h1 with e | e
          · rw [e]; exact hy i List.mem_cons_self
          · exact hy _ (List.mem_cons_of_mem _ e)
        rw [show m = maxI i is by omega]
        exact rfl
      · exact P.elim
    · exact P.elim
  · rename_i d _
    obtain ⟨v, rfl, rv⟩ := VRs.one_of rs
    split at P
    · rename_i ys e
      split at P
      · rename_i i is eb
        obtain ⟨a, vs, rfl, t, u⟩ := VR.ls r rv e
        rw [intsOf_eq eb] at u
        rw [VRs.ints_of u] at t
        refine cr_min hc pins s σ H _ us Q I rx ⟨a, i :: is, rfl, t, by simp, fun m hm hy => same_ok r P ?_⟩
        obtain ⟨h1, h2, h3⟩ := minI_spec i is
        have e1 : minI i is ≤ m := by
          rcases List.mem_cons.mp hm with rfl | hm
          · exact h2
          · exact h3 m hm
        have e2 : m ≤ minI i is := by
          rcases h1 with e | e
          · rw [e]; exact hy i List.mem_cons_self
          · exact hy _ (List.mem_cons_of_mem _ e)
        rw [show m = minI i is by omega]
        exact rfl
      · exact P.elim
    · exact P.elim
  · cases ok
  · cases ok
  · exact P.elim
end
/-! ### items -/
section
variable {X : Cx}
theorem atI_eq {α : Type} (xs : List α) (i : Int) : atI xs i = L2.atI xs i := by
  unfold atI L2.atI
  show _ = (ixN xs.length i).bind _
  cases ixN xs.length i <;> rfl
theorem ixN_lt {n : Nat} {i : Int} {j : Nat} (h : ixN n i = some j) : j < n := by
  unfold ixN at h
  split at h
  · split at h
    · cases h; omega
    · cases h
  · split at h
    · cases h; omega
    · cases h
theorem VRs.atI {G : Ge} {F : Addr → Prop} {ι : List Addr} {H : Hp} {ds : List D} {vs : List V} {i : Int} {d : D} (s : VRs G F ι H ds vs) (e : PL.atI ds i = some d) : ∃ v, L2.atI vs i = some v ∧ VR G F ι H d v := by
  rw [← atI_eq]
  unfold PL.atI at e ⊢
  rw [VRs.length s]
  cases c : ixN ds.length i with
  | none => rw [c] at e; cases e
  | some j =>
    rw [c] at e
    obtain ⟨v, h1, h2⟩ := s.get e
    exact ⟨v, h1, h2⟩
theorem no_dic {G : Ge} {F : Addr → Prop} {ι : List Addr} {H : Hp} {h : Hpp} {d : D} {v : V} (r : Rel G F ι H h) (rv : VR G F ι H d v) : dicOf d h = none := by
  cases d with
  | ref n =>
    obtain ⟨a, rfl, i⟩ := rv
    unfold dicOf
    simp only
    split
    · rename_i hn
      exact (r.cells n a _ i hn).elim
    · rfl
  | _ => rfl
def rItem (G : Ge) : R2 := fun x y H Q => ∃ F ι h a b c, Rel G F ι H h ∧ VR G F ι H a x ∧ VR G F ι H b y ∧ item a b h = some c ∧ ∀ v, VR G F ι H c v → Q v H
theorem ix_item (fa : Nat → Addr) (nf nx : Nat) : IxR X (rItem ⟨X.K, fa, nf, nx⟩) := by
  intro value slice pins s σ H x y v u Q I rx ry ⟨F, ι, h, a, b, c, r, ra, rb, P, q⟩ hs
  unfold item at P
  split at P
  · rename_i z i
    split at P
    · rename_i hz
      split at P
      · rename_i ch e
        cases P
        exact ix_str value slice pins s σ H _ _ v u Q I rx ry ⟨z, i, ch, ra, rb, by rw [line_eq]; exact hz, by rw [← atI_eq]; exact e, q _ rfl⟩ hs
      · cases P
    · cases P
  · rw [no_dic r ra] at P
    simp only at P
    split at P
    · rename_i xs i e _
      obtain ⟨p, vs, rfl, t, u'⟩ := VR.seq r ra e
      obtain ⟨v', e1, rv⟩ := VRs.atI u' P
      rcases t with t | t
      · exact ix_list value slice pins s σ H _ y v u Q I rx ry ⟨p, vs, i, v', rfl, rb, t, e1, q v' rv⟩ hs
      · exact ix_tup value slice pins s σ H _ y v u Q I rx ry ⟨p, vs, i, v', rfl, rb, t, e1, q v' rv⟩ hs
    · cases P
/-- a store into a list -/
def rSet (G : Ge) : V → V → V → Hp → (Hp → Prop) → Prop := fun o i v H Q => ∃ F ι h a b d h', Rel G F ι H h ∧ VR G F ι H a o ∧ VR G F ι H b i ∧ VR G F ι H d v ∧ setItem a b d h = some h' ∧ ∀ H', Grow H ι H' ι → Rel G F ι H' h' → Q H'
theorem set_item (fa : Nat → Addr) (nf nx : Nat) : PSet X (rSet ⟨X.K, fa, nf, nx⟩) := by
  intro pins s σ H o i v ov iv u Q I ro ri rv ⟨F, ι, h, a, b, d, h', r, ra, rb, rd, P, q⟩
  refine set_list pins s σ H o i v ov iv u Q I ro ri rv ?_
  unfold setItem at P
  split at P
  · rename_i n
    obtain ⟨p, rfl, hi⟩ := ra
    split at P
    · rename_i xs hn
      split at P
      · rename_i k
        split at P
        · rename_i j e
          cases P
          obtain ⟨vs, t, w⟩ := r.cells n p _ hi hn
          obtain ⟨r', g⟩ := r.set hi (w.set rd j)
          exact ⟨p, vs, k, j, rfl, rb, t, by rw [VRs.length w]; exact e, q _ g r'⟩
        · cases P
      · cases P
    · rename_i hn
      exact (r.cells n p _ hi hn).elim
    · cases P
  · cases P
end
end PL
end
section
set_option Elab.async false
set_option linter.all false
set_option maxRecDepth 100000
set_option maxHeartbeats 1000000
/-! PLK: the checker: a def's syntax is the term. -/
namespace PL
open PySem PySem.Spec PyProof.Rows L2
/-- what the program's defs are named -/
structure Tab where
  fname : List Str
  xname : List Str
  cst : List (Str × D)
/-! ### the shapes of the syntax -/
def asConst : Expr → Option (Const × Nat × Pos)
  | .Constant c k p => some (c, k, p)
  | _ => none
theorem asConst_eq {e : Expr} {x} (h : asConst e = some x) : e = .Constant x.1 x.2.1 x.2.2 := by cases e <;> first | (cases h; rfl) | cases h
/-- no star, no slice, no display of a set -/
def plain : Expr → Bool
  | .Starred _ _ => false
  | .Slice _ _ _ _ => false
  | .Set _ _ _ => false
  | _ => true
theorem plain_star {e : Expr} (h : plain e = true) (es : List Expr) (env : PySem.Env) : starEach (e :: es) env = (false, eval e env) :: starEach es env := by
  cases e <;> first | rfl | cases h
theorem plain_asg {e : Expr} (h : plain e = true) (es : List Expr) (env : PySem.Env) : assignEach (e :: es) env = (false, assign e env) :: assignEach es env := by
  cases e <;> first | rfl | cases h
theorem plain_behind {e : Expr} (h : plain e = true) (op : CmpOp) : behindInMarks op e = false := by
  cases e <;> first | rfl | cases h
theorem plain_ix {e : Expr} (h : plain e = true) : PlainIx e := by
  cases e <;> first | (intro _ _; rfl) | cases h
theorem plain_fold {e : Expr} (h : plain e = true) (env : PySem.Env) : ∀ x, foldedSetIterable e env x = pure x := by
  cases e <;> first | (intro _; rfl) | cases h
def plainAll : List Expr → Bool
  | [] => true
  | e :: es => plain e && plainAll es
theorem plainAll_back {es : List Expr} (h : plainAll es = true) (pos : Pos) (env : PySem.Env) : (backTo pos (starEach es env)).any (·.1) = false := by
  induction es with
  | nil => rfl
  | cons e es ih =>
    rw [plainAll, Bool.and_eq_true] at h
    rw [plain_star h.1]
    show (false || (backTo pos (starEach es env)).any (·.1)) = false
    rw [ih h.2]; rfl
theorem plainAll_asg {es : List Expr} (h : plainAll es = true) (env : PySem.Env) : (assignEach es env).length = es.length ∧ (assignEach es env).findIdx? (·.1) = none := by
  induction es with
  | nil => exact ⟨rfl, rfl⟩
  | cons e es ih =>
    rw [plainAll, Bool.and_eq_true] at h
    rw [plain_asg h.1]
    obtain ⟨h1, h2⟩ := ih h.2
    exact ⟨by simp [h1], by rw [List.findIdx?_cons, h2]; rfl⟩
/-- its truth is its value's truth -/
def truPlain : Expr → Bool
  | .UnaryOp .Not _ _ => false
  | .BoolOp _ _ _ => false
  | .IfExp _ _ _ _ => false
  | .Compare _ _ _ _ => false
  | _ => true
theorem truPlain_is {e : Expr} (h : truPlain e = true) (env : PySem.Env) : ∀ whole, isTrue e env whole = (do let v ← whole; standAt e.pos; holding [v] (PySem.truthy v)) := by
  cases e with
  | UnaryOp o a p => cases o <;> first | (intro _; rfl) | cases h
  | _ => first | (intro _; rfl) | cases h
/-- no super() -/
def plainBase : Expr → Bool
  | .Call (.Name _ _) _ _ _ => false
  | _ => true
theorem plainBase_is {o : Expr} (h : plainBase o = true) (name : Str) (env : PySem.Env) : attributeBase o name env (eval o env) = eval o env := by
  cases o with
  | Call f a k p => cases f <;> first | rfl | cases h
  | _ => rfl
/-! ### names -/
def goodName (x : Str) : Bool := !(x == ("__debug__" : Str)) && !(x == ("__classdict__" : Str)) && decide (x ≠ "__name__")
def glC (sc : Scope) (x : Str) : Bool := decide (sc.names.lookup x = some .globalImplicit)
def visC (sc : Scope) (x : Str) : Bool := match sc.names.lookup x with
  | some .local => true
  | some .cell => true
  | some .free => true
  | _ => false
def stoC (sc : Scope) (fb : Str → Bool) (x : Str) : Bool := match sc.names.lookup x with
  | some .local => true
  | some .cell => fb x
  | _ => false
theorem visC_ok {sc : Scope} {x : Str} (h : visC sc x = true) : Vis sc x := by
  unfold visC at h
  split at h <;> rename_i e
  · exact .inl e
  · exact .inr (.inl e)
  · exact .inr (.inr e)
  · cases h
theorem stoC_ok {sc : Scope} {fb : Str → Bool} {x : Str} (h : stoC sc fb x = true) : Loc sc x ∧ (fb x = true ∨ sc.names.lookup x = some .local) := by
  unfold stoC at h
  split at h <;> rename_i e
  · exact ⟨.inl e, .inr e⟩
  · exact ⟨.inr e, .inl h⟩
  · cases h
def biName : Bi → Str
  | .len => "len"
  | .abs => "abs"
  | .int => "int"
  | .all => "all"
  | .any => "any"
  | .tuple => "tuple"
  | .list => "list"
  | .sum => "sum"
  | .max => "max"
  | .min => "min"
  | .sorted => "sorted"
  | .dict => "dict"
def tyName : Ty → Str
  | .int => "int"
  | .bool => "bool"
  | .str => "str"
  | .tuple => "tuple"
  | .list => "list"
def mtName : Mt → Str
  | .append => "append"
  | .extend => "extend"
  | .insert => "insert"
  | .pop => "pop"
  | .remove => "remove"
  | .index => "index"
  | .count => "count"
  | .get => "get"
/-- names of built-ins that no def hides -/
def bnames : List Str := ["len", "abs", "int", "all", "any", "tuple", "list", "sum", "max", "min", "sorted", "dict", "bool", "str", "isinstance", "range", "enumerate", "zip"]
/-- a and b and ..: the rest -/
def tailB (op : BoolOp) (pos : Pos) : List Expr → Expr
  | [y] => y
  | l => .BoolOp op l pos
def ownOf (N : List Str) (own : List Nat) : List (Str × Nat) := own.map fun i => (N.getD i "", i)
theorem ownOf_ix (N : List Str) (own : List Nat) : (ownOf N own).map (·.2) = own := by
  unfold ownOf
  rw [List.map_map]
  show own.map id = own
  exact List.map_id own
/-! ### views -/
def vName (p : Expr) : Option Str := match p with
  | .Name x _ => some x
  | _ => none
theorem vName_eq {p : Expr} {x : Str} (h : vName p = some x) : ∃ pos, p = .Name x pos := by
  cases p <;> first | (cases h; exact ⟨_, rfl⟩) | cases h
def vTup (p : Expr) : Option (List Expr) := match p with
  | .Tuple es _ _ => if es.length ≤ 1000 then some es else none
  | _ => none
theorem vTup_eq {p : Expr} {x} (h : vTup p = some x) : (∃ k pos, p = .Tuple x k pos) ∧ x.length ≤ 1000 := by
  unfold vTup at h
  split at h
  · split at h
    · cases h; exact ⟨⟨_, _, rfl⟩, by assumption⟩
    · cases h
  · cases h
def vLst (p : Expr) : Option (List Expr) := match p with
  | .List es _ => if es.length ≤ 1000 then some es else none
  | _ => none
theorem vLst_eq {p : Expr} {x} (h : vLst p = some x) : (∃ pos, p = .List x pos) ∧ x.length ≤ 1000 := by
  unfold vLst at h
  split at h
  · split at h
    · cases h; exact ⟨⟨_, rfl⟩, by assumption⟩
    · cases h
  · cases h
def vBin (o : Operator) (p : Expr) : Option (Expr × Expr) := match p with
  | .BinOp x o' y _ => if o' = o then some (x, y) else none
  | _ => none
theorem vBin_eq {o : Operator} {p : Expr} {x} (h : vBin o p = some x) : ∃ pos, p = .BinOp x.1 o x.2 pos := by
  unfold vBin at h
  split at h
  · split at h
    · rename_i e; cases h; subst e; exact ⟨_, rfl⟩
    · cases h
  · cases h
def vUn (o : UnaryOp) (p : Expr) : Option Expr := match p with
  | .UnaryOp o' x _ => if o' = o then some x else none
  | _ => none
theorem vUn_eq {o : UnaryOp} {p : Expr} {x} (h : vUn o p = some x) : ∃ pos, p = .UnaryOp o x pos := by
  unfold vUn at h
  split at h
  · split at h
    · rename_i e; cases h; subst e; exact ⟨_, rfl⟩
    · cases h
  · cases h
def vBool (o : BoolOp) (p : Expr) : Option (Expr × Expr) := match p with
  | .BoolOp o' (x :: y :: r) pos => if o' = o then some (x, tailB o pos (y :: r)) else none
  | _ => none
theorem vBool_eq {o : BoolOp} {p : Expr} {x} (h : vBool o p = some x) : ∃ y r pos, p = .BoolOp o (x.1 :: y :: r) pos ∧ x.2 = tailB o pos (y :: r) := by
  unfold vBool at h
  split at h
  · split at h
    · rename_i e; cases h; subst e; exact ⟨_, _, _, rfl, rfl⟩
    · cases h
  · cases h
def vCmp (o : CmpOp) (p : Expr) : Option (Expr × Expr) := match p with
  | .Compare x [o'] [y] _ => if o' = o ∧ plain y = true then some (x, y) else none
  | _ => none
theorem vCmp_eq {o : CmpOp} {p : Expr} {x} (h : vCmp o p = some x) : (∃ pos, p = .Compare x.1 [o] [x.2] pos) ∧ plain x.2 = true := by
  unfold vCmp at h
  split at h
  · split at h
    · rename_i e; cases h; obtain ⟨rfl, e⟩ := e; exact ⟨⟨_, rfl⟩, e⟩
    · cases h
  · cases h
def vIsN (o : CmpOp) (p : Expr) : Option Expr := match p with
  | .Compare x [o'] [.Constant .none _ _] _ => if o' = o then some x else none
  | _ => none
theorem vIsN_eq {o : CmpOp} {p : Expr} {x} (h : vIsN o p = some x) : ∃ k q pos, p = .Compare x [o] [.Constant .none k q] pos := by
  unfold vIsN at h
  split at h
  · split at h
    · rename_i e; cases h; subst e; exact ⟨_, _, _, rfl⟩
    · cases h
  · cases h
def vChain (o1 o2 : CmpOp) (p : Expr) : Option (Expr × Expr × Expr) := match p with
  | .Compare x [p1, p2] [y, z] _ => if p1 = o1 ∧ p2 = o2 ∧ plain z = true then some (x, y, z) else none
  | _ => none
theorem vChain_eq {o1 o2 : CmpOp} {p : Expr} {x} (h : vChain o1 o2 p = some x) : (∃ pos, p = .Compare x.1 [o1, o2] [x.2.1, x.2.2] pos) ∧ plain x.2.2 = true := by
  unfold vChain at h
  split at h
  · split at h
    · rename_i e; cases h; obtain ⟨rfl, rfl, e⟩ := e; exact ⟨⟨_, rfl⟩, e⟩
    · cases h
  · cases h
def vIf (p : Expr) : Option (Expr × Expr × Expr) := match p with
  | .IfExp a b c _ => some (a, b, c)
  | _ => none
theorem vIf_eq {p : Expr} {x} (h : vIf p = some x) : ∃ pos, p = .IfExp x.1 x.2.1 x.2.2 pos := by
  unfold vIf at h
  split at h
  · cases h; exact ⟨_, rfl⟩
  · cases h
def vCall (p : Expr) : Option (Str × List Expr) := match p with
  | .Call (.Name x _) es [] _ => some (x, es)
  | _ => none
theorem vCall_eq {p : Expr} {x} (h : vCall p = some x) : ∃ q pos, p = .Call (.Name x.1 q) x.2 [] pos := by
  unfold vCall at h
  split at h
  · cases h; exact ⟨_, _, rfl⟩
  · cases h
def vMeth (p : Expr) : Option (Expr × Str × List Expr) := match p with
  | .Call (.Attribute o x apos) es [] cpos => if (apos.endLine == cpos.line) = true ∧ plainBase o = true ∧ es.length ≤ 4 then some (o, x, es) else none
  | _ => none
theorem vMeth_eq {p : Expr} {x} (h : vMeth p = some x) : (∃ apos cpos, p = .Call (.Attribute x.1 x.2.1 apos) x.2.2 [] cpos ∧ (apos.endLine == cpos.line) = true) ∧ plainBase x.1 = true ∧ x.2.2.length ≤ 4 := by
  unfold vMeth at h
  split at h
  · split at h
    · rename_i e; cases h; exact ⟨⟨_, _, rfl, e.1⟩, e.2⟩
    · cases h
  · cases h
def vSub (p : Expr) : Option (Expr × Expr) := match p with
  | .Subscript x y _ => if plain y = true then some (x, y) else none
  | _ => none
theorem vSub_eq {p : Expr} {x} (h : vSub p = some x) : (∃ pos, p = .Subscript x.1 x.2 pos) ∧ plain x.2 = true := by
  unfold vSub at h
  split at h
  · split at h
    · rename_i e; cases h; exact ⟨⟨_, rfl⟩, e⟩
    · cases h
  · cases h
def vSl (p : Expr) : Option (Expr × Option Expr × Option Expr) := match p with
  | .Subscript x (.Slice lo hi none _) _ => some (x, lo, hi)
  | _ => none
theorem vSl_eq {p : Expr} {x} (h : vSl p = some x) : ∃ p2 pos, p = .Subscript x.1 (.Slice x.2.1 x.2.2 none p2) pos := by
  unfold vSl at h
  split at h
  · cases h; exact ⟨_, _, rfl⟩
  · cases h
def vRev (p : Expr) : Option Expr := match p with
  | .Subscript x (.Slice none none (some (.UnaryOp .USub (.Constant (.int 1) _ _) _)) _) _ => some x
  | _ => none
theorem vRev_eq {p x : Expr} (h : vRev p = some x) : ∃ k p1 p2 p3 pos, p = .Subscript x (.Slice none none (some (.UnaryOp .USub (.Constant (.int 1) k p1) p2)) p3) pos := by
  unfold vRev at h
  split at h
  · cases h; exact ⟨_, _, _, _, _, rfl⟩
  · cases h
structure Cmp1 where
  elt : Expr
  tg : Expr
  it : Expr
  ifs : List Expr
  scope : Scope
def vComp (p : Expr) : Option Cmp1 := match p with
  | .ListComp e [⟨t, i, ifs, 0⟩] scope _ => if plain i = true ∧ ifs.length ≤ 1 then some ⟨e, t, i, ifs, scope⟩ else none
  | _ => none
theorem vComp_eq {p : Expr} {x} (h : vComp p = some x) : (∃ pos, p = .ListComp x.elt [⟨x.tg, x.it, x.ifs, 0⟩] x.scope pos) ∧ plain x.it = true ∧ x.ifs.length ≤ 1 := by
  unfold vComp at h
  split at h
  · split at h
    · rename_i e; cases h; exact ⟨⟨_, rfl⟩, e⟩
    · cases h
  · cases h
/-- the methods told here -/
def mtOk : Mt → Bool
  | .append => true
  | .extend => true
  | .pop => true
  | _ => false
/-- a target's slots are among these -/
def tgIn (vs : List Nat) : Tg → Bool
  | .nil => true
  | .name i => decide (i ∈ vs)
  | .tup ts => tgIn vs ts
  | .cons t ts => tgIn vs t && tgIn vs ts
def glN (sc : Scope) (x y : Str) : Bool := decide (x = y) && glC sc x
mutual
def chkG (N : List Str) (sc : Scope) (fb : Str → Bool) : Tg → Expr → Bool
  | .nil, _ => false
  | .name i, p => match vName p with
    | some x => decide (N[i]? = some x) && stoC sc fb x
    | none => false
  | .tup ts, p => match vTup p with
    | some es => plainAll es && chkGs N sc fb ts es
    | none => false
  | .cons _ _, _ => false
def chkGs (N : List Str) (sc : Scope) (fb : Str → Bool) : Tg → List Expr → Bool
  | .nil, es => es.isEmpty
  | .cons t ts, es => match es with
    | e :: r => chkG N sc fb t e && chkGs N sc fb ts r
    | [] => false
  | .name _, _ => false
  | .tup _, _ => false
end
def fbOf (scope : Scope) : Str → Bool := fun x => scope.names.lookup x == some .cell
/-- isinstance's second argument -/
def chkTys (sc : Scope) : List Ty → List Expr → Bool
  | [], es => es.isEmpty
  | t :: ts, es => match es with
    | e :: r => (match vName e with
      | some x => glN sc x (tyName t)
      | none => false) && plain e && chkTys sc ts r
    | [] => false
def chkIsi (sc : Scope) (ts : List Ty) (p : Expr) : Bool := match ts with
  | [t] => chkTys sc [t] [p]
  | ts => match vTup p with
    | some es => chkTys sc ts es
    | none => false
def chkCst (T : Tab) (sc : Scope) (d : D) (p : Expr) : Bool := match d with
  | .fn f => match vName p with
    | some x => decide (T.fname[f]? = some x) && glC sc x && goodName x
    | none => false
  | d => match asConst p with
    | some (c, _, _) => match d, c with
      | .non, .none => true
      | .bl b, .bool c => b == c
      | .int i, .int j => decide (i = j)
      | .str s, .str t => decide (s = t)
      | _, _ => false
    | none => false
mutual
def chkE (T : Tab) (N : List Str) : E → Scope → (Str → Bool) → Expr → Bool
  | .cst d, sc, _, p => chkCst T sc d p
  | .var i, sc, _, p => match vName p with
    | some x => decide (N[i]? = some x) && visC sc x && goodName x
    | none => false
  | .glb x d, sc, _, p => match vName p with
    | some y => decide (x = y) && decide (T.cst.lookup x = some d) && glC sc x && goodName x
    | none => false
  | .tup es, sc, fb, p => match vTup p with
    | some ps => chkEs T N es sc fb ps
    | none => false
  | .lst _ es, sc, fb, p => match vLst p with
    | some ps => chkEs T N es sc fb ps
    | none => false
  | .bin _ op a b, sc, fb, p => match vBin (pyOp op) p with
    | some q => chkE T N a sc fb q.1 && chkE T N b sc fb q.2
    | none => false
  | .neg a, sc, fb, p => match vUn .USub p with
    | some x => chkE T N a sc fb x
    | none => false
  | .not a, sc, fb, p => match vUn .Not p with
    | some x => chkE T N a sc fb x
    | none => false
  | .and a b, sc, fb, p => match vBool .And p with
    | some q => chkE T N a sc fb q.1 && chkE T N b sc fb q.2
    | none => false
  | .or a b, sc, fb, p => match vBool .Or p with
    | some q => chkE T N a sc fb q.1 && chkE T N b sc fb q.2
    | none => false
  | .cmp op a b, sc, fb, p => match vCmp (pyCop op) p with
    | some q => chkE T N a sc fb q.1 && chkE T N b sc fb q.2
    | none => false
  | .isN ng a, sc, fb, p => match vIsN (if ng then .IsNot else .Is) p with
    | some x => chkE T N a sc fb x
    | none => false
  | .inn _ _ _, _, _, _ => false
  | .chain o1 o2 a b c, sc, fb, p => match vChain (pyCop o1) (pyCop o2) p with
    | some q => chkE T N a sc fb q.1 && chkE T N b sc fb q.2.1 && chkE T N c sc fb q.2.2
    | none => false
  | .ite c a b, sc, fb, p => match vIf p with
    | some q => chkE T N c sc fb q.1 && chkE T N a sc fb q.2.1 && chkE T N b sc fb q.2.2
    | none => false
  | .call f es, sc, fb, p => match vCall p with
    | some q => decide (T.fname[f]? = some q.1) && glC sc q.1 && goodName q.1 && chkEs T N es sc fb q.2
    | none => false
  | .callv i es, sc, fb, p => match vCall p with
    | some q => decide (N[i]? = some q.1) && visC sc q.1 && goodName q.1 && !q.2.isEmpty && chkEs T N es sc fb q.2
    | none => false
  | .bi b _ es, sc, fb, p => match vCall p with
    | some q => biOk b && glN sc q.1 (biName b) && !q.2.isEmpty && chkEs T N es sc fb q.2
    | none => false
  | .conv _ _ _, _, _, _ => false
  | .isi a ts, sc, fb, p => match vCall p with
    | some q => match q.2 with
      | [x, y] => glN sc q.1 "isinstance" && plain x && plain y && chkE T N a sc fb x && chkIsi sc ts y
      | _ => false
    | none => false
  | .mth m o es, sc, fb, p => match vMeth p with
    | some q => mtOk m && decide (q.2.1 = mtName m) && chkE T N o sc fb q.1 && chkEs T N es sc fb q.2.2
    | none => false
  | .idx a b, sc, fb, p => match vSub p with
    | some q => chkE T N a sc fb q.1 && chkE T N b sc fb q.2
    | none => false
  | .sl _ a lo hi, sc, fb, p => match vSl p with
    | some q => chkE T N a sc fb q.1 && chkO T N lo sc fb q.2.1 && chkO T N hi sc fb q.2.2
    | none => false
  | .rev _ a, sc, fb, p => match vRev p with
    | some x => chkE T N a sc fb x
    | none => false
  | .comp _ elt tg it cs own, sc, fb, p => match vComp p with
    | some q => blkC N sc q.scope (ownOf N own) && tgIn own tg && chkI T N it sc fb q.tg q.it && chkG N (relS q.scope sc) (fbOf q.scope) tg q.tg &&
        chkEs T N cs (relS q.scope sc) (fbOf q.scope) q.ifs && chkE T N elt (relS q.scope sc) (fbOf q.scope) q.elt
    | none => false
  | .comp2 _ _ _ _ _ _ _ _ _, _, _, _ => false
  | .dic _ _, _, _, _ => false
def chkEs (T : Tab) (N : List Str) : Es → Scope → (Str → Bool) → List Expr → Bool
  | .nil, _, _, ps => ps.isEmpty
  | .cons e es, sc, fb, ps => match ps with
    | p :: r => plain p && chkE T N e sc fb p && chkEs T N es sc fb r
    | [] => false
/-- a slice's part -/
def chkO (T : Tab) (N : List Str) : Es → Scope → (Str → Bool) → Option Expr → Bool
  | .nil, _, _, p => p.isNone
  | .cons e es, sc, fb, p => match p with
    | some x => chkE T N e sc fb x && (match es with
      | .nil => true
      | .cons _ _ => false)
    | none => false
def chkI (T : Tab) (N : List Str) : Itr → Scope → (Str → Bool) → Expr → Expr → Bool
  | .of e, sc, fb, _, p => chkE T N e sc fb p
  | .range1 a, sc, fb, _, p => match vCall p with
    | some q => match q.2 with
      | [x] => glN sc q.1 "range" && plain x && chkE T N a sc fb x
      | _ => false
    | none => false
  | .range2 a b, sc, fb, _, p => match vCall p with
    | some q => match q.2 with
      | [x, y] => glN sc q.1 "range" && plain x && plain y && chkE T N a sc fb x && chkE T N b sc fb y
      | _ => false
    | none => false
  | .range3 _ _ _, _, _, _, _ => false
  | .enum e, sc, fb, t, p => match vCall p with
    | some q => match q.2 with
      | [x] => glN sc q.1 "enumerate" && plain x && chkE T N e sc fb x && (vTup t).isSome
      | _ => false
    | none => false
  | .zip a b, sc, fb, t, p => match vCall p with
    | some q => match q.2 with
      | [x, y] => glN sc q.1 "zip" && plain x && plain y && chkE T N a sc fb x && chkE T N b sc fb y && (vTup t).isSome
      | _ => false
    | none => false
end
end PL
end
section
set_option Elab.async false
set_option linter.all false
set_option maxRecDepth 100000
set_option maxHeartbeats 1000000
/-! PLS5: a checked expression does what the evaluator tells. -/
namespace PL
open PySem PySem.Spec PyProof.Rows L2
def erx (G : Ge) (F : Addr → Prop) (xa : Nat → Addr) (ι : List Addr) (H : Hp) (W : WX) : Nat → Hpp → Prop := fun c h' => c < G.nx → ∀ H' ι', Grow H ι H' ι' → Rel G F ι' H' h' → ∀ dx σ', W (.ref (xa c)) dx σ' H'
def erk (G : Ge) (F : Addr → Prop) (xa : Nat → Addr) (ι : List Addr) (H : Hp) (E : XK) : Nat → Hpp → Prop := fun c h' => c < G.nx → ∀ H' ι', Grow H ι H' ι' → Rel G F ι' H' h' → ∀ dx, E (.ref (xa c)) dx H'
/-- a def's promise -/
def spF (G : Ge) (xa : Nat → Addr) (cal : Cal) (f : Nat) : Sp := fun vs H Q E => ∃ F ι h ds, Rel G F ι H h ∧ VRs G F ι H ds vs ∧ Post (cal f ds h) (okp G F ι H Q) (erk G F xa ι H E)
def EnvR (G : Ge) (F : Addr → Prop) (ι : List Addr) (H : Hp) (ρ : List (Option D)) (σ : L2.St) : Prop := ρ.length ≤ σ.length ∧ ∀ (i : Nat) (d : D), ρ[i]? = some (some d) → ∃ v, σ[i]? = some (some v) ∧ VR G F ι H d v
/-! constants -/
mutual
def KC (K : PySem.W.Frag) : D → V → Prop
  | .non, v => v = .non
  | .bl b, v => v = .bl b
  | .int i, v => v = .int i
  | .str s, v => v = .str s
  | .tup xs, v => ∃ a vs, v = .ref a ∧ (∃ (o : Obj) (its : Array Value) (n : Nat), K.lookup a = some o ∧ o.cls = .type "tuple" ∧ o.data = .seq its n ∧ its.size ≤ sizeLine ∧ Vals vs its.toList) ∧ KCs K xs vs
  | _, _ => False
def KCs (K : PySem.W.Frag) : List D → List V → Prop
  | [], vs => vs = []
  | x :: xs, vs => ∃ v r, vs = v :: r ∧ KC K x v ∧ KCs K xs r
end
section
variable {G : Ge} {F : Addr → Prop} {ι : List Addr} {H : Hp}
mutual
theorem KC.vr : ∀ {d : D} {v : V}, KC G.K d v → VR G F ι H d v
  | .non, _, r => r
  | .bl _, _, r => r
  | .int _, _, r => r
  | .str _, _, r => r
  | .tup xs, v, r => by
    obtain ⟨a, vs, e, t, u⟩ := r
    exact ⟨a, vs, e, .inr t, KCs.vr u⟩
  | .fl _, _, r => r.elim
  | .ref _, _, r => r.elim
  | .fn _, _, r => r.elim
  | .sc _, _, r => r.elim
theorem KCs.vr : ∀ {d : List D} {v : List V}, KCs G.K d v → VRs G F ι H d v
  | [], _, r => r
  | x :: xs, vs, r => by
    obtain ⟨v, t, e, r1, r2⟩ := r
    exact ⟨v, t, e, KC.vr r1, KCs.vr r2⟩
end
end
structure Ctx (T : Tab) (G : Ge) (xa : Nat → Addr) (cal : Cal) (k : Nat) (N : List Str) (sc : Scope) (fb : Str → Bool) (W : WX) (X : Cx) : Prop where
  hK : X.K = G.K
  hN : X.N = N
  nd : N.Nodup
  sc : X.env.scope = sc
  fn : X.fn = fb
  calm : X.calm = true
  room : Room k X.A
  takes : Takes X W
  fnm : ∀ f x, T.fname[f]? = some x → X.mg x = some (.ref (G.fa f))
  fns : ∀ f, f < T.fname.length → PySem.W.keepIn X.K (.ref (G.fa f)) = true ∧ ∃ fd ps, FnOk X.prog X.w X.K X.mg X.base (L2.CX X.prog X.w) k (G.fa f) fd ps (spF G xa cal f) ∧ Binds X.K fd ps []
  nf : G.nf = T.fname.length
  nx : G.nx = T.xname.length
  exc : ∀ e x, T.xname[e]? = some x → X.mg x = some (.ref (xa e)) ∧ PySem.W.keepIn X.K (.ref (xa e)) = true ∧ Raises X (.ref (xa e)) ∧ ∃ bmB B newId initId, ExcBaseFacts B newId initId bmB ∧ PySem.W.excIn X.K (xa e) bmB newId = true
  exm : ∀ e j, e < G.nx → j < G.nx → PySem.W.exmOne X.K (.ref (xa e)) (.ref (xa j)) = some (decide (e = j))
  free : ∀ x ∈ bnames, X.mg x = none
  cst : ∀ x d, T.cst.lookup x = some d → ∃ v u, X.mg x = some u ∧ RelV v u ∧ KC X.K d v
section
variable {T : Tab} {G : Ge} {xa : Nat → Addr} {cal : Cal} {k : Nat} {N : List Str} {sc : Scope} {fb : Str → Bool} {W : WX} {X : Cx} {F : Addr → Prop} {ι : List Addr} {H : Hp} {h : Hpp} {ρ : List (Option D)} {σ : L2.St} {Q : VK}
theorem EnvR.mono {F' : Addr → Prop} {ι' : List Addr} {H' : Hp} (g : Grow H ι H' ι') (c : Cells H ι) (f : ∀ a, F' a → F a ∨ H a = none) (e : EnvR G F ι H ρ σ) : EnvR G F' ι' H' ρ σ :=
  ⟨e.1, fun i d q => let ⟨v, h1, h2⟩ := e.2 i d q; ⟨v, h1, VR.mono g c f h2⟩⟩
theorem EnvR.up {ι' : List Addr} {H' : Hp} (g : Grow H ι H' ι') (c : Cells H ι) (e : EnvR G F ι H ρ σ) : EnvR G F ι' H' ρ σ := e.mono g c fun _ z => .inl z
theorem EnvR.set {i : Nat} {d : D} {v : V} (e : EnvR G F ι H ρ σ) (r : VR G F ι H d v) : EnvR G F ι H (ρ.set i (some d)) (σ.set i (some v)) := by
  refine ⟨by simp [e.1], fun j c q => ?_⟩
  by_cases hj : i = j
  · subst hj
    have hl : i < ρ.length := by
      have := (List.getElem?_eq_some_iff.mp q).1
      simpa using this
    rw [List.getElem?_set_self hl] at q
    cases q
    exact ⟨v, List.getElem?_set_self (Nat.lt_of_lt_of_le hl e.1), r⟩
  · rw [List.getElem?_set_ne hj] at q
    obtain ⟨u, h1, h2⟩ := e.2 j c q
    exact ⟨u, by rw [List.getElem?_set_ne hj]; exact h1, h2⟩
theorem EnvR.setN {i : Nat} (e : EnvR G F ι H ρ σ) : EnvR G F ι H (ρ.set i none) (σ.set i none) := by
  refine ⟨by simp [e.1], fun j c q => ?_⟩
  by_cases hj : i = j
  · subst hj
    have hl : i < ρ.length := by
      have := (List.getElem?_eq_some_iff.mp q).1
      simpa using this
    rw [List.getElem?_set_self hl] at q
    cases q
  · rw [List.getElem?_set_ne hj] at q
    obtain ⟨u, h1, h2⟩ := e.2 j c q
    exact ⟨u, by rw [List.getElem?_set_ne hj]; exact h1, h2⟩
theorem EnvR.wipe (e : EnvR G F ι H ρ σ) : ∀ vs : List Nat, EnvR G F ι H (PL.wipe ρ vs) (L2.wipe σ vs)
  | [] => e
  | i :: r => (EnvR.wipe e r).setN
theorem Post.from {r : R D} {ι1 : List Addr} {H1 : Hp} (p : Post r (okp G F ι H Q) (erx G F xa ι H W)) (g : Grow H ι H1 ι1) : Post r (okp G F ι1 H1 Q) (erx G F xa ι1 H1 W) :=
  p.imp (fun d h' z v H' ι' g' r' s' => z v H' ι' (g.trans g') r' s') fun c h' z hc H' ι' g' r' => z hc H' ι' (g.trans g') r'
theorem erx.from {ι1 : List Addr} {H1 : Hp} {c : Nat} {h' : Hpp} (p : erx G F xa ι H W c h') (g : Grow H ι H1 ι1) : erx G F xa ι1 H1 W c h' := fun hc H' ι' g' r' => p hc H' ι' (g.trans g') r'
def rE (G : Ge) (xa : Nat → Addr) (cal : Cal) (e : E) (W : WX) : TE := fun σ H Q => ∃ F ι h ρ, Rel G F ι H h ∧ EnvR G F ι H ρ σ ∧ Post (ev cal e ρ h) (okp G F ι H Q) (erx G F xa ι H W)
def rT (G : Ge) (xa : Nat → Addr) (cal : Cal) (e : E) (W : WX) : TT := fun σ H Q => ∃ F ι h ρ, Rel G F ι H h ∧ EnvR G F ι H ρ σ ∧ Post (tru (ev cal e ρ h)) (okg G F ι H fun b H' _ => Q b H') (erx G F xa ι H W)
def rA (G : Ge) (xa : Nat → Addr) (cal : Cal) (es : Es) (W : WX) : TA := fun σ H Q => ∃ F ι h ρ, Rel G F ι H h ∧ EnvR G F ι H ρ σ ∧ Post (evs cal es ρ h) (fun ds h' => ∀ vs H' ι', Grow H ι H' ι' → Rel G F ι' H' h' → VRs G F ι' H' ds vs → Q vs H') (erx G F xa ι H W)
theorem rE_of {e : E} {O : D → Hpp → Prop} {Q' : VK} (r : Rel G F ι H h) (en : EnvR G F ι H ρ σ) (p : Post (ev cal e ρ h) O (erx G F xa ι H W))
    (q : ∀ d h1 v H1 ι1, O d h1 → Grow H ι H1 ι1 → Rel G F ι1 H1 h1 → VR G F ι1 H1 d v → Q' v H1) : rE G xa cal e W σ H Q' :=
  ⟨F, ι, h, ρ, r, en, p.imp (fun d h1 o v H1 ι1 g r1 s1 => q d h1 v H1 ι1 o g r1 s1) fun _ _ z => z⟩
theorem rT_of {e : E} {O : Bool → Hpp → Prop} {Q' : Bool → Hp → Prop} (r : Rel G F ι H h) (en : EnvR G F ι H ρ σ) (p : Post (tru (ev cal e ρ h)) O (erx G F xa ι H W))
    (q : ∀ d h1 H1 ι1, O d h1 → Grow H ι H1 ι1 → Rel G F ι1 H1 h1 → Q' d H1) : rT G xa cal e W σ H Q' :=
  ⟨F, ι, h, ρ, r, en, p.imp (fun d h1 o H1 ι1 g r1 => q d h1 H1 ι1 o g r1) fun _ _ z => z⟩
theorem rA_of {e : Es} {O : List D → Hpp → Prop} {Q' : List V → Hp → Prop} (r : Rel G F ι H h) (en : EnvR G F ι H ρ σ) (p : Post (evs cal e ρ h) O (erx G F xa ι H W))
    (q : ∀ d h1 v H1 ι1, O d h1 → Grow H ι H1 ι1 → Rel G F ι1 H1 h1 → VRs G F ι1 H1 d v → Q' v H1) : rA G xa cal e W σ H Q' :=
  ⟨F, ι, h, ρ, r, en, p.imp (fun d h1 o v H1 ι1 g r1 s1 => q d h1 v H1 ι1 o g r1 s1) fun _ _ z => z⟩
theorem PE.imp {e : Expr} {t t' : TE} (p : PE X e t) (i : ∀ σ H Q, t' σ H Q → t σ H Q) : PE X e t' := ⟨fun pins s σ H Q I q => p.run pins s σ H Q I (i _ _ _ q)⟩
theorem PT.imp {e : Expr} {t t' : TT} (p : PT X e t) (i : ∀ σ H Q, t' σ H Q → t σ H Q) : PT X e t' := ⟨fun pins s σ H Q I q => p.run pins s σ H Q I (i _ _ _ q)⟩
theorem PA.imp {e : List Expr} {t t' : TA} (p : PA X e t) (i : ∀ σ H Q, t' σ H Q → t σ H Q) : PA X e t' := ⟨fun pos pins s σ H Q I q => p.run pos pins s σ H Q I (i _ _ _ q)⟩
theorem PI.imp {tg e : Expr} {t t' : TI} (p : PI X tg e t) (i : ∀ σ H Q, t' σ H Q → t σ H Q) : PI X tg e t' := ⟨fun pins s σ H Q I q => p.run pins s σ H Q I (i _ _ _ q)⟩
theorem PS.imp {st : Stmt} {t t' : TS} (p : PS X st t) (i : ∀ D σ H, t' D σ H → t D σ H) : PS X st t' := ⟨fun pins s σ H D I q => p.run pins s σ H D I (i _ _ _ q)⟩
theorem PSs.imp {st : List Stmt} {t t' : TS} (p : PSs X st t) (i : ∀ D σ H, t' D σ H → t D σ H) : PSs X st t' := ⟨fun pins s σ H D I q => p.run pins s σ H D I (i _ _ _ q)⟩
/-! tests -/
theorem tru_bl (b : Bool) (h : Hpp) : tru (R.ok (.bl b) h) = .ok b h := rfl
theorem tru_not (a : E) : tru (ev cal (.not a) ρ h) = (tru (ev cal a ρ h)).bind fun b h => .ok (!b) h := by
  simp only [ev]
  cases tru (ev cal a ρ h) <;> rfl
theorem tru_and (a b : E) : tru (ev cal (.and a b) ρ h) = (tru (ev cal a ρ h)).bind fun k h => if k = true then tru (ev cal b ρ h) else .ok false h := by
  simp only [ev, tru]
  cases ev cal a ρ h with
  | ok x h1 =>
    simp only [R.bind_ok]
    cases e : truthy x h1 with
    | none => rfl
    | some k => cases k with
      | true => rfl
      | false => simp [R.bind, e, opt]
  | er c h1 => rfl
  | no => rfl
theorem tru_or (a b : E) : tru (ev cal (.or a b) ρ h) = (tru (ev cal a ρ h)).bind fun k h => if k = true then .ok true h else tru (ev cal b ρ h) := by
  simp only [ev, tru]
  cases ev cal a ρ h with
  | ok x h1 =>
    simp only [R.bind_ok]
    cases e : truthy x h1 with
    | none => rfl
    | some k => cases k with
      | true => simp [R.bind, e, opt]
      | false => rfl
  | er c h1 => rfl
  | no => rfl
theorem rT_plain {e : E} {Qb : Bool → Hp → Prop} (r : rT G xa cal e W σ H Qb) : rE G xa cal e W σ H fun x H' => ∃ k, TruV G.K x H' k ∧ Qb k H' := by
  obtain ⟨F, ι, h, ρ, r, en, P⟩ := r
  refine rE_of r en P.bind fun d h1 v H1 ι1 o g r1 s1 => ?_
  obtain ⟨k, e, o⟩ := Post.opt o
  exact ⟨k, tru_of r1 s1 e, o H1 ι1 g r1⟩
theorem pw_bool {o : BoolOp} {vs : List Expr} {pos : Pos} {t : TT} (p : PT X (.BoolOp o vs pos) t) : PW X (.BoolOp o vs pos) t := ⟨fun _ pins s σ H Q I q => p.run pins s σ H Q I q⟩
theorem pw_tail {o : BoolOp} {y : Expr} {r : List Expr} {pos : Pos} {t : TT} (p : PT X (tailB o pos (y :: r)) t) : PW X (.BoolOp o (y :: r) pos) t := by
  cases r with
  | nil => cases o with
    | And => exact pw_and1 p
    | Or => exact pw_or1 p
  | cons z r => exact pw_bool p
theorem pe_tail {o : BoolOp} {y : Expr} {r : List Expr} {pos : Pos} {t : TE} (p : PE X (tailB o pos (y :: r)) t) : PE X (.BoolOp o (y :: r) pos) t := by
  cases r with
  | nil => exact pe_one p
  | cons z r => exact p
end
end PL
end
section
set_option Elab.async false
set_option linter.all false
set_option maxRecDepth 100000
set_option maxHeartbeats 1000000
/-! PLS6: the cases, one by one. -/
namespace PL
open PySem PySem.Spec PyProof.Rows L2
/-! ### methods of lists -/
def rMt (G : Ge) (m : Mt) : V → List V → Hp → VK → Prop := fun x xs H Q => ∃ F ι h a ds E, Rel G F ι H h ∧ VR G F ι H a x ∧ VRs G F ι H ds xs ∧ Post (doMt m a ds h) (okp G F ι H Q) E
section
variable {X : Cx} {G : Ge} {F : Addr → Prop} {ι : List Addr} {H : Hp} {h : Hpp} {Q : VK} {E : Nat → Hpp → Prop}
theorem set_ok {n : Nat} {p : Addr} {xs : List D} {vs : List V} {d : D} {v : V} (r : Rel G F ι H h) (i : ι[n]? = some p) (s : VRs G F ι H xs vs) (rv : VR G F ι H d v) (P : Post (R.ok d (h.set n (.lst xs))) (okp G F ι H Q) E) : Q v (L2.upd H p (.lst vs)) := by
  obtain ⟨r', g⟩ := r.set i s
  exact P v _ ι g r' (VR.up g r.cellsOk rv)
theorem refOf_eq {o : D} {n : Nat} {xs : List D} (e : refOf o h = some (n, xs)) : o = .ref n ∧ h[n]? = some (.lst xs) := by
  unfold refOf at e
  split at e
  · split at e
    · cases e; exact ⟨rfl, by assumption⟩
    · cases e
  · cases e
theorem ref_ok {o : D} {v : V} {n : Nat} {xs : List D} (r : Rel G F ι H h) (rv : VR G F ι H o v) (e : refOf o h = some (n, xs)) : ∃ p vs, v = .ref p ∧ ι[n]? = some p ∧ H p = some (.lst vs) ∧ VRs G F ι H xs vs := by
  obtain ⟨rfl, hn⟩ := refOf_eq e
  obtain ⟨p, rfl, hi⟩ := rv
  obtain ⟨vs, t, w⟩ := r.cells n p _ hi hn
  exact ⟨p, vs, rfl, hi, t, w⟩
theorem ixN_rng {n : Nat} {i : Int} {k : Nat} (h : ixN n i = some k) : seqIndex? i n = some k ∧ -(n : Int) ≤ i ∧ i < n := by
  have e : L2.ixN n i = some k := h
  have q := L2.ixN_seq e
  exact ⟨q.1, q.2.2⟩
theorem lst_line {pins : List (Addr × Obj)} {σ : L2.St} {s : Shared} {p : Addr} {vs : List V} (I : Inv X pins σ H s) (t : H p = some (.lst vs)) : vs.length ≤ line := by
  have := (I.lstM t).1
  rw [line_eq] at this; exact this
theorem mt_append' (fa : Nat → Addr) (nf nx : Nat) : MtR X "list.append" (rMt ⟨X.K, fa, nf, nx⟩ .append) := by
  intro pins s σ H x xs v us Q I rx rs ⟨F, ι, h, a, ds, E, r, ra, rds, P⟩
  refine mt_append pins s σ H x xs v us Q I rx rs ?_
  show rAppend x xs H Q
  change Post (mtAppend a ds h) _ _ at P
  unfold mtAppend at P
  split at P
  · rename_i d n ys e
    obtain ⟨p, vs, rfl, hi, t, w⟩ := ref_ok r ra e
    obtain ⟨u, rfl, ru⟩ := VRs.one_of rds
    split at P
    · rename_i c
      exact ⟨p, vs, u, rfl, rfl, t, by rw [VRs.length w, line_eq]; exact c, set_ok (d := .non) (v := .non) r hi (w.append (VRs.one ru)) rfl P⟩
    · exact P.elim
  · exact P.elim
theorem mt_extend' (fa : Nat → Addr) (nf nx : Nat) : MtR X "list.extend" (rMt ⟨X.K, fa, nf, nx⟩ .extend) := by
  intro pins s σ H x xs v us Q I rx rs ⟨F, ι, h, a, ds, E, r, ra, rds, P⟩
  refine mt_extend pins s σ H x xs v us Q I rx rs ?_
  show rExtend x xs H Q
  change Post (mtExtend a ds h) _ _ at P
  unfold mtExtend at P
  split at P
  · rename_i d n ys e
    obtain ⟨p, vs, rfl, hi, t, w⟩ := ref_ok r ra e
    obtain ⟨u, rfl, ru⟩ := VRs.one_of rds
    split at P
    · rename_i zs e2
      obtain ⟨b, ws, rfl, t2, w2⟩ := VR.lst r ru e2
      split at P
      · rename_i c
        exact ⟨p, b, vs, ws, rfl, rfl, t, t2, by rw [VRs.length w, VRs.length w2, line_eq]; exact c, set_ok (d := .non) (v := .non) r hi (w.append w2) rfl P⟩
      · exact P.elim
    · exact P.elim
  · exact P.elim
theorem VRs.dropLast {ds : List D} {vs : List V} (r : VRs G F ι H ds vs) : VRs G F ι H ds.dropLast vs.dropLast := by
  rw [List.dropLast_eq_take, List.dropLast_eq_take, VRs.length r]
  exact r.take _
theorem mt_pop' (fa : Nat → Addr) (nf nx : Nat) : MtR X "list.pop" (rMt ⟨X.K, fa, nf, nx⟩ .pop) := by
  intro pins s σ H x xs v us Q I rx rs ⟨F, ι, h, a, ds, E, r, ra, rds, P⟩
  change Post (mtPop a ds h) _ _ at P
  unfold mtPop at P
  split at P
  · rename_i n ys e
    obtain ⟨p, vs, rfl, hi, t, w⟩ := ref_ok r ra e
    cases (show xs = [] from rds)
    split at P
    · rename_i d e2
      obtain ⟨u, e3, ru⟩ := w.get e2
      exact mt_pop pins s σ H _ _ v us Q I rx rs ⟨p, vs, u, rfl, rfl, t, by rw [VRs.length w]; exact e3, set_ok r hi w.dropLast ru P⟩
    · exact P.elim
  · rename_i i n ys e
    obtain ⟨p, vs, rfl, hi, t, w⟩ := ref_ok r ra e
    obtain ⟨u, rfl, ru⟩ := VRs.one_of rds
    cases (show u = V.int i from ru)
    split at P
    · rename_i k e2
      split at P
      · rename_i d e3
        obtain ⟨u, e4, ru'⟩ := w.get e3
        obtain ⟨q1, q2, q3⟩ := ixN_rng e2
        have l := lst_line I t
        have l2 := VRs.length w
        have hl : line = 16777216 := rfl
        exact mt_popAt pins s σ H _ _ v us Q I rx rs ⟨p, vs, i, k, u, rfl, rfl, t, by omega, by omega, by rw [l2]; exact q1, e4, set_ok r hi (w.eraseIdx k) ru' P⟩
      · exact P.elim
    · exact P.elim
  · exact P.elim
/-! ### isinstance -/
def typS : D → String
  | .non => "NoneType"
  | .bl _ => "bool"
  | .int _ => "int"
  | .str _ => "str"
  | .tup _ => "tuple"
  | _ => "list"
def tyS : Ty → String
  | .int => "int"
  | .bool => "bool"
  | .str => "str"
  | .tuple => "tuple"
  | .list => "list"
theorem typ_ok {d : D} {v : V} (r : Rel G F ι H h) (rv : VR G F ι H d v) (ok : tyOk d h = true) : TyX G.K H v (.type (typS d)) := by
  cases d with
  | non => cases (show v = V.non from rv); exact .base .non
  | bl b => cases (show v = V.bl b from rv); exact .base (.bl b)
  | int b => cases (show v = V.int b from rv); exact .base (.int b)
  | str b => cases (show v = V.str b from rv); exact .base (.str b)
  | tup xs =>
    obtain ⟨a, vs, rfl, t, u⟩ := rv
    rcases t with (t | ⟨o, t⟩) | ⟨o, its, n, t, c, _⟩
    · exact .base (.tup t)
    · exact .fTuple t
    · exact .kTuple t c
  | fl xs =>
    obtain ⟨a, vs, rfl, ⟨t, _⟩, u⟩ := rv
    exact .base (.lst t)
  | ref n =>
    obtain ⟨a, rfl, i⟩ := rv
    unfold tyOk at ok
    simp only at ok
    split at ok
    · rename_i hn
      obtain ⟨vs, t, w⟩ := r.cells n a _ i hn
      exact .base (.lst t)
    · cases ok
  | fn _ => cases ok
  | sc _ => cases ok
theorem kit_tt (d : D) (t : Ty) (ok : tyOk d h = true) : kitB (typS d) (tyS t) = some (isTy d h t) := by
  cases d with
  | ref n =>
    unfold tyOk at ok
    simp only at ok
    split at ok
    · rename_i hn
      cases t <;> simp only [isTy, hn, typS, tyS] <;> decide +kernel
    · cases ok
  | fn _ => cases ok
  | sc _ => cases ok
  | _ => cases t <;> simp only [isTy, typS, tyS] <;> decide +kernel
theorem kit_any {K : PySem.W.Frag} (d : D) (ok : tyOk d h = true) : ∀ ts : List Ty, PySem.W.kitAny K (.type (typS d)) (ts.map fun t => Value.type (tyS t)) = some (ts.any fun t => isTy d h t)
  | [] => kitAny_nil
  | t :: ts => by
    refine kitAny_cons (kit_ty (kit_tt d t ok)) (fun e => ?_) fun e => ?_
    · rw [List.any_cons, e, Bool.false_or]; exact kit_any d ok ts
    · rw [List.any_cons, e, Bool.true_or]
end
end PL
end
section
set_option Elab.async false
set_option linter.all false
set_option maxRecDepth 100000
set_option maxHeartbeats 1000000
/-! PLS7: expressions, case by case. -/
namespace PL
open PySem PySem.Spec PyProof.Rows L2
section
variable {T : Tab} {G : Ge} {xa : Nat → Addr} {cal : Cal} {k : Nat} {N : List Str} {sc : Scope} {fb : Str → Bool} {W : WX} {X : Cx} {F : Addr → Prop} {ι : List Addr} {H : Hp} {h : Hpp} {ρ : List (Option D)} {σ : L2.St} {Q : VK}
theorem Ctx.gl (c : Ctx T G xa cal k N sc fb W X) {x : Str} (h : glC sc x = true) : Gl X x := by
  have h := of_decide_eq_true h
  show X.env.scope.names.lookup x = _
  rw [c.sc]; exact h
theorem Ctx.vis (c : Ctx T G xa cal k N sc fb W X) {x : Str} (h : visC sc x = true) : Vis X.env.scope x := by
  rw [c.sc]; exact visC_ok h
theorem good_is {x : Str} (h : goodName x = true) : (x == ("__debug__" : Str)) = false ∧ (x == ("__classdict__" : Str)) = false ∧ x ≠ "__name__" := by
  unfold goodName at h
  rw [Bool.and_eq_true, Bool.and_eq_true, Bool.not_eq_true', Bool.not_eq_true'] at h
  exact ⟨h.1.1, h.1.2, of_decide_eq_true h.2⟩
theorem glN_is {x y : Str} (h : glN sc x y = true) : x = y ∧ glC sc x = true := by
  unfold glN at h
  rw [Bool.and_eq_true] at h
  exact ⟨of_decide_eq_true h.1, h.2⟩
theorem Ctx.eqK (c : Ctx T G xa cal k N sc fb W X) : (⟨X.K, G.fa, G.nf, G.nx⟩ : Ge) = G := by rw [c.hK]
theorem Ctx.passes (c : Ctx T G xa cal k N sc fb W X) : Passes (L2.CX X.prog X.w) X (fun cls d H => ∀ σ', W cls d σ' H) := passes_call c.takes fun _ _ σ _ q => q σ
theorem snd_cst (c : Ctx T G xa cal k N sc fb W X) {d : D} {p : Expr} (ok : chkCst T sc d p = true) : PE X p (rE G xa cal (.cst d) W) := by
  unfold chkCst at ok
  split at ok
  · rename_i f
    split at ok
    · rename_i x e
      rw [Bool.and_eq_true, Bool.and_eq_true] at ok
      obtain ⟨⟨o1, o2⟩, o3⟩ := ok
      obtain ⟨pos, rfl⟩ := vName_eq e
      exact PE.imp (pe_glob (v := .ref (G.fa f)) (c.gl o2) (c.fnm f x (of_decide_eq_true o1)) rfl (good_is o3).1) fun σ H Q ⟨F, ι, h, ρ, r, en, P⟩ => same_ok r P ⟨rfl, by rw [c.nf]; exact (List.getElem?_eq_some_iff.mp (of_decide_eq_true o1)).1⟩
    · cases ok
  · split at ok
    · rename_i x e
      rw [asConst_eq e]
      obtain ⟨c', j, pos⟩ := x
      simp only at ok ⊢
      split at ok
      · exact PE.imp pe_non fun σ H Q ⟨F, ι, h, ρ, r, en, P⟩ => same_ok r P rfl
      · cases (eq_of_beq ok)
        exact PE.imp pe_bl fun σ H Q ⟨F, ι, h, ρ, r, en, P⟩ => same_ok r P rfl
      · cases (of_decide_eq_true ok)
        exact PE.imp pe_int fun σ H Q ⟨F, ι, h, ρ, r, en, P⟩ => same_ok r P rfl
      · cases (of_decide_eq_true ok)
        exact PE.imp pe_str fun σ H Q ⟨F, ι, h, ρ, r, en, P⟩ => same_ok r P rfl
      · cases ok
    · cases ok
theorem snd_var (c : Ctx T G xa cal k N sc fb W X) {i : Nat} {x : Str} {pos : Pos} (h1 : N[i]? = some x) (h2 : visC sc x = true) (h3 : goodName x = true) : PE X (.Name x pos) (rE G xa cal (.var i) W) :=
  PE.imp (pe_var (by rw [c.hN]; exact h1) (c.vis h2) (good_is h3).1 (good_is h3).2.1) fun σ H Q ⟨F, ι, h, ρ, r, en, P⟩ => by
    simp only [ev] at P
    split at P
    · rename_i d e
      obtain ⟨v, e1, rv⟩ := en.2 i d e
      exact ⟨v, e1, same_ok r P rv⟩
    · exact P.elim
theorem snd_glb (c : Ctx T G xa cal k N sc fb W X) {x : Str} {d : D} {pos : Pos} (h1 : T.cst.lookup x = some d) (h2 : glC sc x = true) (h3 : goodName x = true) : PE X (.Name x pos) (rE G xa cal (.glb x d) W) := by
  obtain ⟨v, u, hm, rv, kc⟩ := c.cst x d h1
  rw [c.hK] at kc
  exact PE.imp (pe_glob (c.gl h2) hm rv (good_is h3).1) fun σ H Q ⟨F, ι, h, ρ, r, en, P⟩ => same_ok r P kc.vr
theorem snd_nil : PA X [] (rA G xa cal .nil W) := PA.imp pa_nil fun σ H Q ⟨F, ι, h, ρ, r, en, P⟩ => P [] H ι Grow.refl r rfl
theorem Post.fromA {r : R (List D)} {Q : List V → Hp → Prop} {ι1 : List Addr} {H1 : Hp} (p : Post r (fun ds h' => ∀ vs H' ι', Grow H ι H' ι' → Rel G F ι' H' h' → VRs G F ι' H' ds vs → Q vs H') (erx G F xa ι H W)) (g : Grow H ι H1 ι1) :
    Post r (fun ds h' => ∀ vs H' ι', Grow H1 ι1 H' ι' → Rel G F ι' H' h' → VRs G F ι' H' ds vs → Q vs H') (erx G F xa ι1 H1 W) :=
  p.imp (fun d h' z v H' ι' g' r' s' => z v H' ι' (g.trans g') r' s') fun c h' z hc H' ι' g' r' => z hc H' ι' (g.trans g') r'
theorem Post.fromT {r : R Bool} {Q : Bool → Hp → Prop} {ι1 : List Addr} {H1 : Hp} (p : Post r (okg G F ι H fun b H' _ => Q b H') (erx G F xa ι H W)) (g : Grow H ι H1 ι1) : Post r (okg G F ι1 H1 fun b H' _ => Q b H') (erx G F xa ι1 H1 W) :=
  p.imp (fun d h' z H' ι' g' r' => z H' ι' (g.trans g') r') fun c h' z hc H' ι' g' r' => z hc H' ι' (g.trans g') r'
theorem snd_cons {e : E} {es : Es} {p : Expr} {ps : List Expr} (pl : plain p = true) (he : PE X p (rE G xa cal e W)) (hs : PA X ps (rA G xa cal es W)) : PA X (p :: ps) (rA G xa cal (.cons e es) W) :=
  PA.imp (pa_cons he hs (plain_star pl _ _)) fun σ H Q ⟨F, ι, h, ρ, r, en, P⟩ => by
    simp only [evs] at P
    refine rE_of r en P.bind fun d h1 v H1 ι1 P1 g1 r1 s1 => ?_
    refine rA_of r1 (en.up g1 r.cellsOk) (Post.fromA P1 g1).bind fun ds h2 vs H2 ι2 P2 g2 r2 s2 => ?_
    exact P2 (v :: vs) H2 ι2 g2 r2 ⟨v, vs, rfl, s1.up g2 r1.cellsOk, s2⟩
theorem evs_len : ∀ (es : Es) (ps : List Expr), chkEs T N es sc fb ps = true → ∀ {ρ : List (Option D)} {h : Hpp}, Post (evs cal es ρ h) (fun ds _ => ds.length = ps.length) (fun _ _ => True) ∨ evs cal es ρ h = .no
  | .nil, ps, ok, ρ, h => by
    cases ps with
    | nil => exact .inl rfl
    | cons _ _ => simp [chkEs] at ok
  | .cons e es, ps, ok, ρ, h => by
    cases ps with
    | nil => simp [chkEs] at ok
    | cons p ps =>
      simp only [chkEs, Bool.and_eq_true] at ok
      simp only [evs]
      cases ev cal e ρ h with
      | ok d h1 =>
        simp only [R.bind_ok]
        rcases evs_len es ps ok.2 (ρ := ρ) (h := h1) with q | q
        · left
          cases e2 : evs cal es ρ h1 with
          | ok ds h2 =>
            rw [e2] at q
            have q : ds.length = ps.length := q
            show (d :: ds).length = (p :: ps).length
            simp [q]
          | er c h2 => exact trivial
          | no => rw [e2] at q; exact q.elim
        · right; rw [q]; rfl
      | er c h1 => exact .inl trivial
      | no => exact .inr rfl
theorem snd_tup {es : Es} {ps : List Expr} {j : Nat} {pos : Pos} (hl : ps.length ≤ 1000) (ok : chkEs T N es sc fb ps = true) (hs : PA X ps (rA G xa cal es W)) : PE X (.Tuple ps j pos) (rE G xa cal (.tup es) W) :=
  PE.imp (pe_tup hs) fun σ H Q ⟨F, ι, h, ρ, r, en, P⟩ => by
    simp only [ev] at P
    have P := P.bind
    rcases evs_len (cal := cal) es ps ok (ρ := ρ) (h := h) with q | q
    · have P2 : Post (evs cal es ρ h) (fun a h => Post (R.ok (D.tup a) h) (okp G F ι H Q) (erx G F xa ι H W) ∧ a.length = ps.length) (erx G F xa ι H W) := by
        cases e : evs cal es ρ h with
        | ok ds h1 => rw [e] at P q; exact ⟨P, q⟩
        | er c h1 => rw [e] at P; exact P
        | no => rw [e] at P; exact P
      refine rA_of r en P2 fun ds h1 vs H1 ι1 P1 g1 r1 s1 => ⟨?_, fun p n => tup_ok r1 s1 (Post.from P1.1 g1) n⟩
      rw [VRs.length s1, P1.2, line_eq]
      have : line = 16777216 := rfl
      omega
    · rw [q] at P; exact P.elim
theorem snd_lst {th : Bool} {es : Es} {ps : List Expr} {pos : Pos} (hl : ps.length ≤ 1000) (ok : chkEs T N es sc fb ps = true) (hs : PA X ps (rA G xa cal es W)) : PE X (.List ps pos) (rE G xa cal (.lst th es) W) :=
  PE.imp (pe_lst hs) fun σ H Q ⟨F, ι, h, ρ, r, en, P⟩ => by
    simp only [ev] at P
    have P := P.bind
    rcases evs_len (cal := cal) es ps ok (ρ := ρ) (h := h) with q | q
    · have P2 : Post (evs cal es ρ h) (fun a h => Post (new th a h) (okp G F ι H Q) (erx G F xa ι H W) ∧ a.length = ps.length) (erx G F xa ι H W) := by
        cases e : evs cal es ρ h with
        | ok ds h1 => rw [e] at P q; exact ⟨P, q⟩
        | er c h1 => rw [e] at P; exact P
        | no => rw [e] at P; exact P
      refine rA_of r en P2 fun ds h1 vs H1 ι1 P1 g1 r1 s1 => ⟨?_, fun p n => new_ok r1 s1 (Post.from P1.1 g1) n⟩
      rw [VRs.length s1, P1.2, line_eq]
      have : line = 16777216 := rfl
      omega
    · rw [q] at P; exact P.elim
theorem snd_bin (c : Ctx T G xa cal k N sc fb W X) {op : Bop} {th : Bool} {a b : E} {x y : Expr} {pos : Pos} (ha : PE X x (rE G xa cal a W)) (hb : PE X y (rE G xa cal b W)) : PE X (.BinOp x (pyOp op) y pos) (rE G xa cal (.bin th op a b) W) :=
  PE.imp (pe_op (op_bop G.fa G.nf G.nx op th) ha hb) fun σ H Q ⟨F, ι, h, ρ, r, en, P⟩ => by
    rw [c.eqK]
    simp only [ev] at P
    refine rE_of r en P.bind fun d1 h1 v1 H1 ι1 P1 g1 r1 s1 => ?_
    refine rE_of r1 (en.up g1 r.cellsOk) (Post.from P1 g1).bind fun d2 h2 v2 H2 ι2 P2 g2 r2 s2 => ?_
    exact ⟨F, ι2, h2, d1, d2, _, r2, s1.up g2 r1.cellsOk, s2, Post.from P2 g2⟩
theorem snd_neg {a : E} {x : Expr} {pos : Pos} (ha : PE X x (rE G xa cal a W)) : PE X (.UnaryOp .USub x pos) (rE G xa cal (.neg a) W) :=
  PE.imp (pe_un un_neg ha) fun σ H Q ⟨F, ι, h, ρ, r, en, P⟩ => by
    simp only [ev] at P
    refine rE_of r en P.bind fun d1 h1 v1 H1 ι1 P1 g1 r1 s1 => ?_
    split at P1
    · rename_i i
      exact ⟨i, s1, same_ok r1 (Post.from P1 g1) rfl⟩
    · exact P1.elim
theorem snd_not {a : E} {x : Expr} {pos : Pos} (c : Ctx T G xa cal k N sc fb W X) (ha : PE X x (rE G xa cal a W)) : PE X (.UnaryOp .Not x pos) (rE G xa cal (.not a) W) :=
  PE.imp (pe_notT ha) fun σ H Q ⟨F, ι, h, ρ, r, en, P⟩ => by
    rw [c.hK]
    simp only [ev, tru] at P
    refine rE_of r en P.bind.bind fun d1 h1 v1 H1 ι1 P1 g1 r1 s1 => ?_
    obtain ⟨b, e, P2⟩ := Post.opt P1
    exact ⟨b, tru_of r1 s1 e, same_ok r1 (Post.from P2 g1) rfl⟩
theorem snd_and {a b : E} {x y : Expr} {rr : List Expr} {pos : Pos} (c : Ctx T G xa cal k N sc fb W X) (ha : PE X x (rE G xa cal a W)) (hb : PE X (tailB .And pos (y :: rr)) (rE G xa cal b W)) : PE X (.BoolOp .And (x :: y :: rr) pos) (rE G xa cal (.and a b) W) :=
  PE.imp (pe_andT ha (pe_tail hb)) fun σ H Q ⟨F, ι, h, ρ, r, en, P⟩ => by
    rw [c.hK]
    simp only [ev] at P
    refine rE_of r en P.bind fun d1 h1 v1 H1 ι1 P1 g1 r1 s1 => ?_
    obtain ⟨b, e, P2⟩ := Post.opt P1.bind
    refine ⟨b, tru_of r1 s1 e, ?_⟩
    cases b with
    | true => exact ⟨F, ι1, h1, ρ, r1, en.up g1 r.cellsOk, Post.from P2 g1⟩
    | false => exact same_ok r1 (Post.from P2 g1) s1
theorem snd_or {a b : E} {x y : Expr} {rr : List Expr} {pos : Pos} (c : Ctx T G xa cal k N sc fb W X) (ha : PE X x (rE G xa cal a W)) (hb : PE X (tailB .Or pos (y :: rr)) (rE G xa cal b W)) : PE X (.BoolOp .Or (x :: y :: rr) pos) (rE G xa cal (.or a b) W) :=
  PE.imp (pe_orT ha (pe_tail hb)) fun σ H Q ⟨F, ι, h, ρ, r, en, P⟩ => by
    rw [c.hK]
    simp only [ev] at P
    refine rE_of r en P.bind fun d1 h1 v1 H1 ι1 P1 g1 r1 s1 => ?_
    obtain ⟨b, e, P2⟩ := Post.opt P1.bind
    refine ⟨b, tru_of r1 s1 e, ?_⟩
    cases b with
    | true => exact same_ok r1 (Post.from P2 g1) s1
    | false => exact ⟨F, ι1, h1, ρ, r1, en.up g1 r.cellsOk, Post.from P2 g1⟩
theorem cop_red {op : Cop} {a b : E} (r : Rel G F ι H h) (en : EnvR G F ι H ρ σ) (P : Post (ev cal (.cmp op a b) ρ h) (okp G F ι H Q) (erx G F xa ι H W)) : tOp (rCop G op) (rE G xa cal a W) (rE G xa cal b W) σ H Q := by
  simp only [ev] at P
  refine rE_of r en P.bind fun d1 h1 v1 H1 ι1 P1 g1 r1 s1 => ?_
  refine rE_of r1 (en.up g1 r.cellsOk) (Post.from P1 g1).bind fun d2 h2 v2 H2 ι2 P2 g2 r2 s2 => ?_
  obtain ⟨b, e, P3⟩ := Post.opt P2.bind
  exact ⟨F, ι2, h2, d1, d2, b, r2, s1.up g2 r1.cellsOk, s2, e, same_ok r2 (Post.from P3 g2) rfl⟩
theorem snd_cmp (c : Ctx T G xa cal k N sc fb W X) {op : Cop} {a b : E} {x y : Expr} {pos : Pos} (pl : plain y = true) (ha : PE X x (rE G xa cal a W)) (hb : PE X y (rE G xa cal b W)) : PE X (.Compare x [pyCop op] [y] pos) (rE G xa cal (.cmp op a b) W) :=
  PE.imp (pe_cmpR (op_cop G.fa G.nf G.nx c.room.units op) ha hb (plain_behind pl _)) fun σ H Q ⟨F, ι, h, ρ, r, en, P⟩ => by
    rw [c.eqK]
    exact cop_red r en P
theorem tru_bl_of {e : E} {Qb : Bool → Hp → Prop} (r : R D) : Post (tru r) (okg G F ι H fun b H' _ => Qb b H') (erx G F xa ι H W) → (∀ d h', r = .ok d h' → ∃ b, d = .bl b) → Post r (okp G F ι H fun x H' => ∃ k, x = V.bl k ∧ Qb k H') (erx G F xa ι H W) := fun P z => by
  cases r with
  | ok d h' =>
    obtain ⟨b, rfl⟩ := z d h' rfl
    exact fun v H' ι' g r s => ⟨b, s, P H' ι' g r⟩
  | er c h' => exact P
  | no => exact P
theorem cmp_bl {op : Cop} {a b : E} {d : D} {h' : Hpp} (e : ev cal (.cmp op a b) ρ h = .ok d h') : ∃ b, d = .bl b := by
  simp only [ev] at e
  cases e1 : ev cal a ρ h with
  | ok d1 h1 =>
    rw [e1, R.bind_ok] at e
    cases e2 : ev cal b ρ h1 with
    | ok d2 h2 =>
      rw [e2, R.bind_ok] at e
      cases e3 : cop op d1 d2 h2 with
      | some k => rw [e3] at e; cases e; exact ⟨_, rfl⟩
      | none => rw [e3] at e; cases e
    | er c h2 => rw [e2] at e; cases e
    | no => rw [e2] at e; cases e
  | er c h1 => rw [e1] at e; cases e
  | no => rw [e1] at e; cases e
theorem snd_cmpT (c : Ctx T G xa cal k N sc fb W X) {op : Cop} {a b : E} {x y : Expr} {pos : Pos} (pl : plain y = true) (ha : PE X x (rE G xa cal a W)) (hb : PE X y (rE G xa cal b W)) : PT X (.Compare x [pyCop op] [y] pos) (rT G xa cal (.cmp op a b) W) :=
  PT.imp (pt_cmpR (op_cop G.fa G.nf G.nx c.room.units op) ha hb (plain_behind pl _)) fun σ H Q ⟨F, ι, h, ρ, r, en, P⟩ => by
    rw [c.eqK]
    exact cop_red r en (tru_bl_of (e := .cmp op a b) _ P fun d h' e => cmp_bl e)
theorem isN_red {ng : Bool} {a : E} (r : Rel G F ι H h) (en : EnvR G F ι H ρ σ) (P : Post (ev cal (.isN ng a) ρ h) (okp G F ι H Q) (erx G F xa ι H W)) : tOp (fun x y H Q => y = V.non ∧ Q (.bl (decide (x = V.non) != ng)) H) (rE G xa cal a W) (tC .non) σ H Q := by
  simp only [ev] at P
  refine rE_of r en P.bind fun d1 h1 v1 H1 ι1 P1 g1 r1 s1 => ⟨rfl, ?_⟩
  have e : decide (d1 = D.non) = decide (v1 = V.non) := by
    cases d1 with
    | non => cases (show v1 = V.non from s1); rfl
    | bl _ => cases (show v1 = V.bl _ from s1); simp
    | int _ => cases (show v1 = V.int _ from s1); simp
    | str _ => cases (show v1 = V.str _ from s1); simp
    | tup _ => obtain ⟨a, vs, rfl, _⟩ := s1; simp
    | fl _ => obtain ⟨a, vs, rfl, _⟩ := s1; simp
    | ref _ => obtain ⟨a, rfl, _⟩ := s1; simp
    | fn _ => cases (show v1 = V.ref _ from s1.1); simp
    | sc _ => obtain ⟨a, rfl, _⟩ := s1; simp
  rw [← e]
  exact same_ok r1 (Post.from P1 g1) rfl
theorem op_isNg (ng : Bool) : OpR X (compareOp (if ng then .IsNot else .Is)) (fun x y H Q => y = V.non ∧ Q (.bl (decide (x = V.non) != ng)) H) := by
  cases ng with
  | false =>
    intro pins s σ H x y v u Q I rx ry ⟨e, q⟩
    exact op_isN pins s σ H x y v u Q I rx ry ⟨e, by rw [Bool.bne_false] at q; exact q⟩
  | true =>
    intro pins s σ H x y v u Q I rx ry ⟨e, q⟩
    exact op_notN pins s σ H x y v u Q I rx ry ⟨e, by rw [Bool.bne_true] at q; exact q⟩
theorem snd_isN {ng : Bool} {a : E} {x : Expr} {j : Nat} {q pos : Pos} (ha : PE X x (rE G xa cal a W)) : PE X (.Compare x [if ng then .IsNot else .Is] [.Constant .none j q] pos) (rE G xa cal (.isN ng a) W) :=
  PE.imp (pe_cmpR (op_isNg ng) ha pe_non rfl) fun σ H Q ⟨F, ι, h, ρ, r, en, P⟩ => isN_red r en P
theorem isN_bl {ng : Bool} {a : E} {d : D} {h' : Hpp} (e : ev cal (.isN ng a) ρ h = .ok d h') : ∃ b, d = .bl b := by
  simp only [ev] at e
  cases e1 : ev cal a ρ h with
  | ok d1 h1 => rw [e1] at e; cases e; exact ⟨_, rfl⟩
  | er c h1 => rw [e1] at e; cases e
  | no => rw [e1] at e; cases e
theorem snd_isNT {ng : Bool} {a : E} {x : Expr} {j : Nat} {q pos : Pos} (ha : PE X x (rE G xa cal a W)) : PT X (.Compare x [if ng then .IsNot else .Is] [.Constant .none j q] pos) (rT G xa cal (.isN ng a) W) :=
  PT.imp (pt_cmpR (op_isNg ng) ha pe_non rfl) fun σ H Q ⟨F, ι, h, ρ, r, en, P⟩ => isN_red r en (tru_bl_of (e := .isN ng a) _ P fun d h' e => isN_bl e)
theorem snd_ite {cc a b : E} {x y z : Expr} {pos : Pos} (hc : PT X x (rT G xa cal cc W)) (ha : PE X y (rE G xa cal a W)) (hb : PE X z (rE G xa cal b W)) : PE X (.IfExp x y z pos) (rE G xa cal (.ite cc a b) W) :=
  PE.imp (pe_ifExp hc ha hb) fun σ H Q ⟨F, ι, h, ρ, r, en, P⟩ => by
    simp only [ev] at P
    refine rT_of r en P.bind fun d1 h1 H1 ι1 P1 g1 r1 => ?_
    cases d1 with
    | true => exact ⟨F, ι1, h1, ρ, r1, en.up g1 r.cellsOk, Post.from P1 g1⟩
    | false => exact ⟨F, ι1, h1, ρ, r1, en.up g1 r.cellsOk, Post.from P1 g1⟩
theorem snd_notT {a : E} {x : Expr} {pos : Pos} (ha : PT X x (rT G xa cal a W)) : PT X (.UnaryOp .Not x pos) (rT G xa cal (.not a) W) :=
  PT.imp (pt_not ha) fun σ H Q ⟨F, ι, h, ρ, r, en, P⟩ => by
    rw [tru_not] at P
    exact rT_of r en P.bind fun d1 h1 H1 ι1 P1 g1 r1 => P1 H1 ι1 g1 r1
theorem snd_andT {a b : E} {x y : Expr} {rr : List Expr} {pos : Pos} (ha : PT X x (rT G xa cal a W)) (hb : PT X (tailB .And pos (y :: rr)) (rT G xa cal b W)) : PT X (.BoolOp .And (x :: y :: rr) pos) (rT G xa cal (.and a b) W) :=
  PT.imp (pw_and ha (pw_tail hb)).pt fun σ H Q ⟨F, ι, h, ρ, r, en, P⟩ => by
    rw [tru_and] at P
    refine rT_of r en P.bind fun d1 h1 H1 ι1 P1 g1 r1 => ?_
    cases d1 with
    | true => exact ⟨F, ι1, h1, ρ, r1, en.up g1 r.cellsOk, Post.fromT P1 g1⟩
    | false => exact P1 H1 ι1 g1 r1
theorem snd_orT {a b : E} {x y : Expr} {rr : List Expr} {pos : Pos} (ha : PT X x (rT G xa cal a W)) (hb : PT X (tailB .Or pos (y :: rr)) (rT G xa cal b W)) : PT X (.BoolOp .Or (x :: y :: rr) pos) (rT G xa cal (.or a b) W) :=
  PT.imp (pw_or ha (pw_tail hb)).pt fun σ H Q ⟨F, ι, h, ρ, r, en, P⟩ => by
    rw [tru_or] at P
    refine rT_of r en P.bind fun d1 h1 H1 ι1 P1 g1 r1 => ?_
    cases d1 with
    | true => exact P1 H1 ι1 g1 r1
    | false => exact ⟨F, ι1, h1, ρ, r1, en.up g1 r.cellsOk, Post.fromT P1 g1⟩
theorem snd_plainT (c : Ctx T G xa cal k N sc fb W X) {e : E} {p : Expr} (tp : truPlain p = true) (he : PE X p (rE G xa cal e W)) : PT X p (rT G xa cal e W) :=
  PT.imp (pt_truth he (truPlain_is tp _)) fun σ H Q r => by rw [c.hK]; exact rT_plain r
theorem tru_ite (cc a b : E) : tru (ev cal (.ite cc a b) ρ h) = (tru (ev cal cc ρ h)).bind fun k h => if k = true then tru (ev cal a ρ h) else tru (ev cal b ρ h) := by
  simp only [ev]
  cases tru (ev cal cc ρ h) with
  | ok k h1 => cases k <;> rfl
  | er c h1 => rfl
  | no => rfl
theorem snd_iteT {cc a b : E} {x y z : Expr} {pos : Pos} (hc : PT X x (rT G xa cal cc W)) (ha : PT X y (rT G xa cal a W)) (hb : PT X z (rT G xa cal b W)) : PT X (.IfExp x y z pos) (rT G xa cal (.ite cc a b) W) := by
  refine ⟨fun pins s σ H Q I ⟨F, ι, h, ρ, r, en, P⟩ => ?_⟩
  rw [tru_ite] at P
  refine isTrue_IfExp (thn (hc.run pins s σ H (fun k H1 => if k = true then rT G xa cal a W σ H1 Q else rT G xa cal b W σ H1 Q) I (rT_of r en P.bind fun d1 h1 H1 ι1 P1 g1 r1 => ?_)) fun k s1 ⟨H1, I1, q1⟩ => ?_)
  · cases d1 with
    | true => exact ⟨F, ι1, h1, ρ, r1, en.up g1 r.cellsOk, Post.fromT P1 g1⟩
    | false => exact ⟨F, ι1, h1, ρ, r1, en.up g1 r.cellsOk, Post.fromT P1 g1⟩
  · cases k with
    | true => exact ha.run pins s1 σ H1 Q I1 q1
    | false => exact hb.run pins s1 σ H1 Q I1 q1
end
end PL
end
section
set_option Elab.async false
set_option linter.all false
set_option maxRecDepth 100000
set_option maxHeartbeats 1000000
/-! PLS8: calls, methods, items, targets. -/
namespace PL
open PySem PySem.Spec PyProof.Rows L2
section
variable {T : Tab} {G : Ge} {xa : Nat → Addr} {cal : Cal} {k : Nat} {N : List Str} {sc : Scope} {fb : Str → Bool} {W : WX} {X : Cx} {F : Addr → Prop} {ι : List Addr} {H : Hp} {h : Hpp} {ρ : List (Option D)} {σ : L2.St} {Q : VK}
theorem chkEs_plain : ∀ {es : Es} {ps : List Expr}, chkEs T N es sc fb ps = true → plainAll ps = true
  | .nil, ps, h => by
    cases ps with
    | nil => rfl
    | cons _ _ => simp [chkEs] at h
  | .cons e es, ps, h => by
    cases ps with
    | nil => simp [chkEs] at h
    | cons p ps =>
      simp only [chkEs, Bool.and_eq_true] at h
      simp only [plainAll, Bool.and_eq_true]
      exact ⟨h.1.1, chkEs_plain h.2⟩
theorem Post.toSp {r : R D} {ι1 : List Addr} {H1 : Hp} (p : Post r (okp G F ι H Q) (erx G F xa ι H W)) (g : Grow H ι H1 ι1) : Post r (okp G F ι1 H1 Q) (erk G F xa ι1 H1 fun cls d H => ∀ σ', W cls d σ' H) :=
  p.imp (fun d h' z v H' ι' g' r' s' => z v H' ι' (g.trans g') r' s') fun c h' z hc H' ι' g' r' dx σ' => z hc H' ι' (g.trans g') r' dx σ'
theorem snd_call (c : Ctx T G xa cal k N sc fb W X) {f : Nat} {es : Es} {x : Str} {ps : List Expr} {q pos : Pos} (h1 : T.fname[f]? = some x) (h2 : glC sc x = true) (h3 : goodName x = true) (ok : chkEs T N es sc fb ps = true) (hs : PA X ps (rA G xa cal es W)) :
    PE X (.Call (.Name x q) ps [] pos) (rE G xa cal (.call f es) W) := by
  have pl := chkEs_plain ok
  obtain ⟨hf, _⟩ := List.getElem?_eq_some_iff.mp h1
  obtain ⟨hk, fd, pp, Fn, hb⟩ := c.fns f hf
  have imp : ∀ {σ H Q}, rE G xa cal (.call f es) W σ H Q → rA G xa cal es W σ H fun vs H1 => spF G xa cal f (vs ++ []) H1 Q (fun cls d H => ∀ σ', W cls d σ' H) := fun {σ H Q} ⟨F, ι, h, ρ, r, en, P⟩ => by
    simp only [ev] at P
    refine rA_of r en P.bind fun ds h1 vs H1 ι1 P1 g1 r1 s1 => ?_
    rw [List.append_nil]
    exact ⟨F, ι1, h1, ds, r1, s1, Post.toSp P1 g1⟩
  cases ps with
  | nil =>
    refine ⟨fun pins s σ H Q I z => ?_⟩
    have z := imp z
    refine (pe_call0 (dvs := []) Fn c.room (c.gl h2) (c.fnm f x h1) hk hb .nil c.passes (good_is h3).1).run pins s σ H Q I ?_
    obtain ⟨F, ι, h, ρ, r, en, P⟩ := z
    cases es with
    | nil =>
      exact P [] H ι Grow.refl r rfl
    | cons e es =>
      simp [chkEs] at ok
  | cons p ps =>
    rw [plainAll, Bool.and_eq_true] at pl
    exact PE.imp (pe_call (dvs := []) Fn c.room (c.gl h2) (c.fnm f x h1) hk hb .nil c.passes hs (good_is h3).1 (plain_star pl.1 _ _) (plainAll_back pl.2 _ _)) fun σ H Q z => imp z
theorem snd_callv (c : Ctx T G xa cal k N sc fb W X) {i : Nat} {es : Es} {x : Str} {ps : List Expr} {q pos : Pos} (h1 : N[i]? = some x) (h2 : visC sc x = true) (h3 : goodName x = true) (ne : ps.isEmpty = false) (ok : chkEs T N es sc fb ps = true) (hs : PA X ps (rA G xa cal es W)) :
    PE X (.Call (.Name x q) ps [] pos) (rE G xa cal (.callv i es) W) := by
  have pl := chkEs_plain ok
  cases ps with
  | nil => cases ne
  | cons p ps =>
    rw [plainAll, Bool.and_eq_true] at pl
    refine ⟨fun pins s σ H Q I ⟨F, ι, h, ρ, r, en, P⟩ => ?_⟩
    simp only [ev] at P
    split at P
    · rename_i f e
      obtain ⟨v, e1, rv⟩ := en.2 i _ e
      obtain ⟨rfl, hf⟩ := (show v = V.ref (G.fa f) ∧ f < G.nf from rv)
      rw [c.nf] at hf
      obtain ⟨hk, fd, pp, Fn, hb⟩ := c.fns f hf
      refine (pe_callL (dvs := []) (i := i) (f := G.fa f) (sp := spF G xa cal f) Fn c.room (by rw [c.hN]; exact h1) (c.vis h2) hk hb .nil c.passes hs (good_is h3).1 (good_is h3).2.1 (plain_star pl.1 _ _) (plainAll_back pl.2 _ _)).run pins s σ H Q I ⟨e1, ?_⟩
      refine rA_of r en P.bind fun ds h1 vs H1 ι1 P1 g1 r1 s1 => ?_
      rw [List.append_nil]
      exact ⟨F, ι1, h1, ds, r1, s1, Post.toSp P1 g1⟩
    · exact P.elim
end
end PL
end
section
set_option Elab.async false
set_option linter.all false
set_option maxRecDepth 100000
set_option maxHeartbeats 1000000
/-! PLS9: built-in functions, methods, items, targets. -/
namespace PL
open PySem PySem.Spec PyProof.Rows L2
section
variable {T : Tab} {G : Ge} {xa : Nat → Addr} {cal : Cal} {k : Nat} {N : List Str} {sc : Scope} {fb : Str → Bool} {W : WX} {X : Cx} {F : Addr → Prop} {ι : List Addr} {H : Hp} {h : Hpp} {ρ : List (Option D)} {σ : L2.St} {Q : VK}
theorem pe_bi (c : Ctx T G xa cal k N sc fb W X) (b : Bi) (ok : biOk b = true) (gl : glC sc (biName b) = true) {r : List V → Hp → VK → Prop} (cr : CallR X (biV b) r) {p : Expr} {ps : List Expr} {q pos : Pos} {t : TA} (pl : plainAll (p :: ps) = true) (ha : PA X (p :: ps) t) :
    PE X (.Call (.Name (biName b) q) (p :: ps) [] pos) (tCB r t) := by
  rw [plainAll, Bool.and_eq_true] at pl
  have s1 := plain_star pl.1 ps X.env
  have s2 := plainAll_back pl.2 pos X.env
  cases b with
  | len => exact pe_callB cr (c.gl gl) (c.free _ (by decide)) (by decide +kernel) ha (by decide) (by decide) s1 s2
  | abs => exact pe_callB cr (c.gl gl) (c.free _ (by decide)) (by decide +kernel) ha (by decide) (by decide) s1 s2
  | all => exact pe_callB cr (c.gl gl) (c.free _ (by decide)) (by decide +kernel) ha (by decide) (by decide) s1 s2
  | any => exact pe_callB cr (c.gl gl) (c.free _ (by decide)) (by decide +kernel) ha (by decide) (by decide) s1 s2
  | sum => exact pe_callB cr (c.gl gl) (c.free _ (by decide)) (by decide +kernel) ha (by decide) (by decide) s1 s2
  | max => exact pe_callB cr (c.gl gl) (c.free _ (by decide)) (by decide +kernel) ha (by decide) (by decide) s1 s2
  | min => exact pe_callB cr (c.gl gl) (c.free _ (by decide)) (by decide +kernel) ha (by decide) (by decide) s1 s2
  | int => exact pe_callTy cr (c.gl gl) (c.free _ (by decide)) (by decide +kernel) ha (by decide) (by decide) s1 s2
  | tuple => exact pe_callTy cr (c.gl gl) (c.free _ (by decide)) (by decide +kernel) ha (by decide) (by decide) s1 s2
  | list => exact pe_callTy cr (c.gl gl) (c.free _ (by decide)) (by decide +kernel) ha (by decide) (by decide) s1 s2
  | sorted => cases ok
  | dict => cases ok
theorem snd_bi (c : Ctx T G xa cal k N sc fb W X) {b : Bi} {th : Bool} {es : Es} {ps : List Expr} {q pos : Pos} (h1 : biOk b = true) (h2 : glC sc (biName b) = true) (ne : ps.isEmpty = false) (ok : chkEs T N es sc fb ps = true) (hs : PA X ps (rA G xa cal es W)) :
    PE X (.Call (.Name (biName b) q) ps [] pos) (rE G xa cal (.bi b th es) W) := by
  have pl := chkEs_plain ok
  cases ps with
  | nil => cases ne
  | cons p ps =>
    refine PE.imp (pe_bi c b h1 h2 (call_bi G.fa G.nf G.nx c.calm b th h1) pl hs) fun σ H Q ⟨F, ι, h, ρ, r, en, P⟩ => ?_
    rw [c.eqK]
    simp only [ev] at P
    refine rA_of r en P.bind fun ds h1 vs H1 ι1 P1 g1 r1 s1 => ?_
    exact ⟨F, ι1, h1, ds, _, r1, s1, Post.from P1 g1⟩
/-! isinstance -/
theorem pe_ty (c : Ctx T G xa cal k N sc fb W X) (t : Ty) (gl : glC sc (tyName t) = true) {pos : Pos} : PE X (.Name (tyName t) pos) (tC (.ty (tyS t))) := by
  cases t with
  | int => exact pe_bltn (c.gl gl) (c.free _ (by decide)) (by decide +kernel) rfl (by decide) (by decide)
  | bool => exact pe_bltn (c.gl gl) (c.free _ (by decide)) (by decide +kernel) rfl (by decide) (by decide)
  | str => exact pe_bltn (c.gl gl) (c.free _ (by decide)) (by decide +kernel) rfl (by decide) (by decide)
  | tuple => exact pe_bltn (c.gl gl) (c.free _ (by decide)) (by decide +kernel) rfl (by decide) (by decide)
  | list => exact pe_bltn (c.gl gl) (c.free _ (by decide)) (by decide +kernel) rfl (by decide) (by decide)
theorem pa_tys (c : Ctx T G xa cal k N sc fb W X) : ∀ (ts : List Ty) (ps : List Expr), chkTys sc ts ps = true → PA X ps (fun _ H Q => Q (ts.map fun t => V.ty (tyS t)) H) ∧ ps.length = ts.length
  | [], ps, ok => by
    cases ps with
    | nil => exact ⟨pa_nil, rfl⟩
    | cons _ _ => simp [chkTys] at ok
  | t :: ts, ps, ok => by
    cases ps with
    | nil => simp [chkTys] at ok
    | cons p ps =>
      simp only [chkTys, Bool.and_eq_true] at ok
      obtain ⟨⟨o1, o2⟩, o3⟩ := ok
      obtain ⟨h1, h2⟩ := pa_tys c ts ps o3
      split at o1
      · rename_i x e
        obtain ⟨pos, rfl⟩ := vName_eq e
        obtain ⟨rfl, gl⟩ := glN_is o1
        exact ⟨PA.imp (pa_cons (pe_ty c t gl) h1 rfl) fun σ H Q q => q, by simp [h2]⟩
      · cases o1
theorem isiP {ts : List Ty} : Paired ClsV (ts.map fun t => V.ty (tyS t)) (ts.map fun t => Value.type (tyS t)) := by
  induction ts with
  | nil => exact .nil
  | cons t ts ih => exact .cons (.ty _) ih
theorem snd_isi (c : Ctx T G xa cal k N sc fb W X) {a : E} {ts : List Ty} {x y : Expr} {q pos : Pos} (gl : glC sc "isinstance" = true) (px : plain x = true) (py : plain y = true) (ha : PE X x (rE G xa cal a W)) (ok : chkIsi sc ts y = true) :
    PE X (.Call (.Name "isinstance" q) [x, y] [] pos) (rE G xa cal (.isi a ts) W) := by
  have s1 := plain_star px [y] X.env
  have s2 : (backTo pos (starEach [y] X.env)).any (·.1) = false := plainAll_back (es := [y]) (by simp [plainAll, py]) pos X.env
  have key : ∀ {σ H Q}, rE G xa cal (.isi a ts) W σ H Q → rE G xa cal a W σ H fun v H1 => ∃ F ι1 h1 d, Rel G F ι1 H1 h1 ∧ VR G F ι1 H1 d v ∧ tyOk d h1 = true ∧ okp G F ι1 H1 Q (.bl (ts.any fun t => isTy d h1 t)) h1 := fun {σ H Q} ⟨F, ι, h, ρ, r, en, P⟩ => by
    simp only [ev] at P
    refine rE_of r en P.bind fun d1 h1 v1 H1 ι1 P1 g1 r1 s1 => ?_
    split at P1
    · rename_i t
      exact ⟨F, ι1, h1, d1, r1, s1, t, (Post.from P1 g1 :)⟩
    · exact P1.elim
  unfold chkIsi at ok
  split at ok
  · rename_i t
    obtain ⟨h1, _⟩ := pa_tys c [t] [y] ok
    refine PE.imp (pe_callB call_isi (c.gl gl) (c.free _ (by decide)) boot_isinstance (pa_cons ha h1 s1) (by decide) (by decide) s1 s2) fun σ H Q z => ?_
    obtain ⟨F, ι, h, ρ, r, en, P⟩ := key z
    refine rE_of r en P fun d1 h1 v1 H1 ι1 P1 g1 r1 s1 => ?_
    obtain ⟨F', ι', h', d, r', s', t', o⟩ := P1 v1 H1 ι1 g1 r1 s1
    refine ⟨v1, .ty (tyS t), _, _, isTy d h' t, rfl, .ty _, by rw [c.hK]; exact typ_ok r' s' t', kit_ty (kit_tt d t t'), ?_⟩
    have o := o (.bl _) H1 ι' Grow.refl r' rfl
    simpa using o
  · split at ok
    · rename_i es e
      obtain ⟨⟨kk, pp, rfl⟩, hl⟩ := vTup_eq e
      obtain ⟨h1, h2⟩ := pa_tys c ts es ok
      refine PE.imp (pe_callB call_isiT (c.gl gl) (c.free _ (by decide)) boot_isinstance (pa_cons ha (pa_cons (pe_tup h1) pa_nil rfl) s1) (by decide) (by decide) s1 s2) fun σ H Q z => ?_
      obtain ⟨F, ι, h, ρ, r, en, P⟩ := key z
      refine rE_of r en P fun d1 h1 v1 H1 ι1 P1 g1 r1 s1 => ?_
      obtain ⟨F', ι', h', d, r', s', t', o⟩ := P1 v1 H1 ι1 g1 r1 s1
      refine ⟨by rw [List.length_map, ← h2, line_eq]; have : line = 16777216 := rfl; omega, fun p n => ?_⟩
      obtain ⟨r2, g2⟩ := r'.upd (o := .tup (ts.map fun t => V.ty (tyS t))) n
      refine ⟨v1, p, _, _, _, _, rfl, upd_same, isiP, by rw [c.hK]; exact typ_ok r2 (VR.up g2 r'.cellsOk s') t', kit_any d t' ts, o _ _ _ g2 r2 rfl⟩
    · cases ok
/-! methods of lists -/
theorem recv_ok {m : Mt} {o : D} {v : V} (mo : mtOk m = true) (r : Rel G F ι H h) (rv : VR G F ι H o v) (q : mtRecv m o h = true) : tyV G.K "list" v H := by
  have q : (lstOf o h).isSome = true := by
    cases m <;> first | exact q | cases mo
  obtain ⟨xs, e⟩ := Option.isSome_iff_exists.mp q
  obtain ⟨a, vs, rfl, t, u⟩ := VR.lst r rv e
  exact .inl ⟨rfl, vs, SqL.of t⟩
theorem few_ok {e : Expr} {es : List Expr} {pos : Pos} {env : PySem.Env} (pl : plainAll (e :: es) = true) (hl : (e :: es).length ≤ 4) : ((backTo pos (starEach (e :: es) env)).all (fun x => !x.1) && (backToKw pos (keywordEach [] env)).all (fun x => x.1.isSome)
      && decide ((e :: es).length + ([] : List Keyword).length + (if ([] : List Keyword).isEmpty then 0 else 1) < 30)) = true := by
  have h1 := plainAll_back pl pos env
  have h2 : (backTo pos (starEach (e :: es) env)).all (fun x => !x.1) = true := by
    rw [List.all_eq_true]
    intro x hx
    rw [List.any_eq_false] at h1
    have := h1 x hx
    cases hb : x.1
    · rfl
    · exact absurd hb this
  rw [h2]
  have h3 : (e :: es).length + ([] : List Keyword).length + (if ([] : List Keyword).isEmpty then 0 else 1) < 30 := by
    simp only [List.length_nil, List.isEmpty_nil, if_true]
    omega
  rw [decide_eq_true h3]
  rfl
theorem snd_mth (c : Ctx T G xa cal k N sc fb W X) {m : Mt} {o : E} {es : Es} {qo : Expr} {ps : List Expr} {apos cpos : Pos} (mo : mtOk m = true) (hb : plainBase qo = true) (hline : (apos.endLine == cpos.line) = true) (hl : ps.length ≤ 4) (ho : PE X qo (rE G xa cal o W)) (ok : chkEs T N es sc fb ps = true) (hs : PA X ps (rA G xa cal es W)) :
    PE X (.Call (.Attribute qo (mtName m) apos) ps [] cpos) (rE G xa cal (.mth m o es) W) := by
  have pl := chkEs_plain ok
  have hbase := plainBase_is hb (mtName m) X.env
  have key : ∀ {σ H Q}, rE G xa cal (.mth m o es) W σ H Q → rE G xa cal o W σ H fun x H1 => tyV X.K "list" x H1 ∧ rA G xa cal es W σ H1 fun xs H2 => rMt ⟨X.K, G.fa, G.nf, G.nx⟩ m x xs H2 Q := fun {σ H Q} ⟨F, ι, h, ρ, r, en, P⟩ => by
    rw [c.eqK]
    simp only [ev] at P
    refine rE_of r en P.bind fun d1 h1 v1 H1 ι1 P1 g1 r1 s1 => ?_
    split at P1
    · rename_i q
      refine ⟨by rw [c.hK]; exact recv_ok mo r1 s1 q, ?_⟩
      refine rA_of r1 (en.up g1 r.cellsOk) (Post.from P1 g1).bind fun ds h2 vs H2 ι2 P2 g2 r2 s2 => ?_
      exact ⟨F, ι2, h2, d1, ds, _, r2, s1.up g2 r1.cellsOk, s2, Post.from P2 g2⟩
    · exact P1.elim
  cases ps with
  | nil =>
    cases es with
    | cons e es => simp [chkEs] at ok
    | nil =>
      cases m with
      | pop =>
        refine PE.imp (pe_bm0 F.plainAttrs_list F.slot_list_pop F.type_list_pop (mt_pop' G.fa G.nf G.nx) ho hbase hline) fun σ H Q z => ?_
        obtain ⟨F, ι, h, ρ, r, en, P⟩ := key z
        refine rE_of r en P fun d1 h1 v1 H1 ι1 P1 g1 r1 s1 => ?_
        obtain ⟨t, F', ι', h', ρ', r', en', P'⟩ := P1 v1 H1 ι1 g1 r1 s1
        exact ⟨t, P' [] H1 ι' Grow.refl r' rfl⟩
      | append =>
        refine PE.imp (pe_bm0 F.plainAttrs_list F.slot_list_append F.type_list_append (mt_append' G.fa G.nf G.nx) ho hbase hline) fun σ H Q z => ?_
        obtain ⟨F, ι, h, ρ, r, en, P⟩ := key z
        refine rE_of r en P fun d1 h1 v1 H1 ι1 P1 g1 r1 s1 => ?_
        obtain ⟨t, F', ι', h', ρ', r', en', P'⟩ := P1 v1 H1 ι1 g1 r1 s1
        exact ⟨t, P' [] H1 ι' Grow.refl r' rfl⟩
      | extend =>
        refine PE.imp (pe_bm0 F.plainAttrs_list F.slot_list_extend F.type_list_extend (mt_extend' G.fa G.nf G.nx) ho hbase hline) fun σ H Q z => ?_
        obtain ⟨F, ι, h, ρ, r, en, P⟩ := key z
        refine rE_of r en P fun d1 h1 v1 H1 ι1 P1 g1 r1 s1 => ?_
        obtain ⟨t, F', ι', h', ρ', r', en', P'⟩ := P1 v1 H1 ι1 g1 r1 s1
        exact ⟨t, P' [] H1 ι' Grow.refl r' rfl⟩
      | _ => cases mo
  | cons p ps =>
    have few := few_ok (pos := cpos) (env := X.env) pl hl
    rw [plainAll, Bool.and_eq_true] at pl
    have s1 := plain_star pl.1 ps X.env
    have s2 := plainAll_back pl.2 cpos X.env
    cases m with
    | pop => exact PE.imp (pe_bm F.plainAttrs_list F.slot_list_pop F.type_list_pop (mt_pop' G.fa G.nf G.nx) ho hs hbase few hline s1 s2) fun σ H Q z => key z
    | append => exact PE.imp (pe_bm F.plainAttrs_list F.slot_list_append F.type_list_append (mt_append' G.fa G.nf G.nx) ho hs hbase few hline s1 s2) fun σ H Q z => key z
    | extend => exact PE.imp (pe_bm F.plainAttrs_list F.slot_list_extend F.type_list_extend (mt_extend' G.fa G.nf G.nx) ho hs hbase few hline s1 s2) fun σ H Q z => key z
    | _ => cases mo
theorem snd_idx (c : Ctx T G xa cal k N sc fb W X) {a b : E} {x y : Expr} {pos : Pos} (py : plain y = true) (ha : PE X x (rE G xa cal a W)) (hb : PE X y (rE G xa cal b W)) : PE X (.Subscript x y pos) (rE G xa cal (.idx a b) W) :=
  PE.imp (pe_ix (ix_item G.fa G.nf G.nx) ha hb (plain_ix py)) fun σ H Q ⟨F, ι, h, ρ, r, en, P⟩ => by
    rw [c.eqK]
    simp only [ev] at P
    refine rE_of r en P.bind fun d1 h1 v1 H1 ι1 P1 g1 r1 s1 => ?_
    refine rE_of r1 (en.up g1 r.cellsOk) (Post.from P1 g1).bind fun d2 h2 v2 H2 ι2 P2 g2 r2 s2 => ?_
    obtain ⟨d, e, P3⟩ := Post.opt (Post.from P2 g2)
    exact ⟨F, ι2, h2, d1, d2, d, r2, s1.up g2 r1.cellsOk, s2, e, fun v rv => P3 v H2 ι2 Grow.refl r2 rv⟩
/-! chains -/
theorem snd_chain (c : Ctx T G xa cal k N sc fb W X) {o1 o2 : Cop} {a b cc : E} {x y z : Expr} {pos : Pos} (pz : plain z = true) (ha : PE X x (rE G xa cal a W)) (hb : PE X y (rE G xa cal b W)) (hc : PE X z (rE G xa cal cc W)) : PE X (.Compare x [pyCop o1, pyCop o2] [y, z] pos) (rE G xa cal (.chain o1 o2 a b cc) W) :=
  PE.imp (pe_chain (op_cop G.fa G.nf G.nx c.room.units o1) (op_cop G.fa G.nf G.nx c.room.units o2) ha hb hc (plain_behind pz _)) fun σ H Q ⟨F, ι, h, ρ, r, en, P⟩ => by
    rw [c.eqK]
    simp only [ev] at P
    refine rE_of r en P.bind fun d1 h1 v1 H1 ι1 P1 g1 r1 s1 => ?_
    refine rE_of r1 (en.up g1 r.cellsOk) (Post.from P1 g1).bind fun d2 h2 v2 H2 ι2 P2 g2 r2 s2 => ?_
    obtain ⟨b1, e1, P3⟩ := Post.opt P2.bind
    refine ⟨F, ι2, h2, d1, d2, b1, r2, s1.up g2 r1.cellsOk, s2, e1, b1, rfl, ?_⟩
    cases b1 with
    | false =>
      exact same_ok r2 (Post.from P3 g2) rfl
    | true =>
      refine rE_of r2 ((en.up g1 r.cellsOk).up g2 r1.cellsOk) (Post.from P3 g2).bind fun d3 h3 v3 H3 ι3 P4 g3 r3 s3 => ?_
      obtain ⟨b2, e2, P5⟩ := Post.opt P4.bind
      exact ⟨F, ι3, h3, d2, d3, b2, r3, s2.up g3 r2.cellsOk, s3, e2, same_ok r3 (Post.from P5 g3) rfl⟩
end
end PL
end
section
set_option Elab.async false
set_option linter.all false
set_option maxRecDepth 100000
set_option maxHeartbeats 1000000
/-! PLS10: targets; what is walked. -/
namespace PL
open PySem PySem.Spec PyProof.Rows L2
theorem wipe_comm {σ : L2.St} {i : Nat} {o : Option V} : ∀ {vs : List Nat}, i ∉ vs → L2.wipe (σ.set i o) vs = (L2.wipe σ vs).set i o
  | [], _ => rfl
  | j :: r, h => by
    have hj : i ≠ j := fun e => h (by rw [e]; exact List.mem_cons_self)
    have hr : i ∉ r := fun e => h (List.mem_cons_of_mem _ e)
    show (L2.wipe (σ.set i o) r).set j none = ((L2.wipe σ r).set j none).set i o
    rw [wipe_comm hr, List.set_comm _ _ hj]
theorem wipe_set {σ : L2.St} {i : Nat} {o : Option V} : ∀ {vs : List Nat}, i ∈ vs → L2.wipe (σ.set i o) vs = L2.wipe σ vs
  | j :: r, h => by
    show (L2.wipe (σ.set i o) r).set j none = (L2.wipe σ r).set j none
    by_cases hr : i ∈ r
    · rw [wipe_set hr]
    · have hj : i = j := by
        rcases List.mem_cons.mp h with e | e
        · exact e
        · exact absurd e hr
      subst hj
      rw [wipe_comm hr, List.set_set]
theorem wipe_mem {σ : L2.St} : ∀ {vs : List Nat} {i : Nat}, i ∈ vs → (L2.wipe σ vs).set i none = L2.wipe σ vs
  | j :: r, i, h => by
    show ((L2.wipe σ r).set j none).set i none = (L2.wipe σ r).set j none
    by_cases hj : i = j
    · subst hj; rw [List.set_set]
    · have hr : i ∈ r := by
        rcases List.mem_cons.mp h with e | e
        · exact absurd e hj
        · exact e
      rw [List.set_comm _ _ (Ne.symm hj), wipe_mem hr]
theorem wipe_wipe {σ : L2.St} : ∀ {vs ws : List Nat}, (∀ i ∈ ws, i ∈ vs) → L2.wipe (L2.wipe σ vs) ws = L2.wipe σ vs
  | vs, [], _ => rfl
  | vs, j :: r, h => by
    show (L2.wipe (L2.wipe σ vs) r).set j none = _
    rw [wipe_wipe fun i hi => h i (List.mem_cons_of_mem _ hi), wipe_mem (h j List.mem_cons_self)]
def rG (G : Ge) (tg : Tg) : TG := fun v σ H Q => ∃ (F : Addr → Prop) (ι : List Addr) (h : Hpp) (ρ : List (Option D)) (d : D) (ρ' : List (Option D)), Rel G F ι H h ∧ EnvR G F ι H ρ σ ∧ VR G F ι H d v ∧ sto tg ρ d = some ρ' ∧
  ∀ σ', EnvR G F ι H ρ' σ' → (∀ vs, tgIn vs tg = true → L2.wipe σ' vs = L2.wipe σ vs) → Q σ' H
def rGs (G : Ge) (ts : Tg) : TGs := fun us σ H Q => ∃ (F : Addr → Prop) (ι : List Addr) (h : Hpp) (ρ : List (Option D)) (ds : List D) (ρ' : List (Option D)), Rel G F ι H h ∧ EnvR G F ι H ρ σ ∧ VRs G F ι H ds us ∧ stos ts ρ ds = some ρ' ∧
  ∀ σ', EnvR G F ι H ρ' σ' → (∀ vs, tgIn vs ts = true → L2.wipe σ' vs = L2.wipe σ vs) → Q σ' H
section
variable {T : Tab} {G : Ge} {xa : Nat → Addr} {cal : Cal} {k : Nat} {N : List Str} {sc : Scope} {fb : Str → Bool} {W : WX} {X : Cx} {F : Addr → Prop} {ι : List Addr} {H : Hp} {h : Hpp} {ρ : List (Option D)} {σ : L2.St} {Q : VK}
theorem PG.imp {e : Expr} {t t' : TG} (p : PG X e t) (i : ∀ v σ H Q, t' v σ H Q → t v σ H Q) : PG X e t' := ⟨fun pins s σ H v u Q I r q => p.run pins s σ H v u Q I r (i _ _ _ _ q)⟩
theorem PGs.imp {e : List Expr} {t t' : TGs} (p : PGs X e t) (i : ∀ v σ H Q, t' v σ H Q → t v σ H Q) : PGs X e t' := ⟨fun pins s σ H v u Q I r q => p.run pins s σ H v u Q I r (i _ _ _ _ q)⟩
theorem Ctx.sto (c : Ctx T G xa cal k N sc fb W X) {x : Str} (h : stoC sc fb x = true) : Loc X.env.scope x ∧ (X.fn x = true ∨ X.env.scope.names.lookup x = some .local) := by
  rw [c.sc, c.fn]; exact stoC_ok h
mutual
theorem snd_tg (c : Ctx T G xa cal k N sc fb W X) : ∀ (tg : Tg) (p : Expr), chkG N sc fb tg p = true → PG X p (rG G tg)
  | .nil, p, ok => by simp [chkG] at ok
  | .cons _ _, p, ok => by simp [chkG] at ok
  | .name i, p, ok => by
    simp only [chkG] at ok
    split at ok
    · rename_i x e
      obtain ⟨pos, rfl⟩ := vName_eq e
      rw [Bool.and_eq_true] at ok
      obtain ⟨o1, o2⟩ := ok
      obtain ⟨l1, l2⟩ := c.sto o2
      refine PG.imp (pg_name (by rw [c.hN]; exact c.nd) (by rw [c.hN]; exact of_decide_eq_true o1) l1 l2) fun v σ H Q ⟨F, ι, h, ρ, d, ρ', r, en, rv, e, q⟩ => ?_
      simp only [sto] at e
      cases e
      exact q _ (en.set rv) fun vs hv => wipe_set (of_decide_eq_true (by simpa [tgIn] using hv))
    · cases ok
  | .tup ts, p, ok => by
    simp only [chkG] at ok
    split at ok
    · rename_i es e
      obtain ⟨⟨kk, pos, rfl⟩, hl⟩ := vTup_eq e
      rw [Bool.and_eq_true] at ok
      obtain ⟨o1, o2⟩ := ok
      obtain ⟨l1, l2⟩ := plainAll_asg o1 X.env
      refine PG.imp (pg_tup c.calm (snd_tgs c ts es o2) l1 l2) fun v σ H Q ⟨F, ι, h, ρ, d, ρ', r, en, rv, e, q⟩ => ?_
      simp only [PL.sto] at e
      split at e
      · rename_i ds
        obtain ⟨a, vs, rfl, t, u⟩ := rv
        refine ⟨a, vs, rfl, by rw [c.hK]; exact t, ?_, F, ι, h, ρ, ds, ρ', r, en, u, e, fun σ' e1 e2 => q σ' e1 fun vs hv => e2 vs (by simpa [tgIn] using hv)⟩
        rw [VRs.length u]
        exact stos_len ts es ρ ds ρ' o2 e
      · cases e
    · cases ok
theorem snd_tgs (c : Ctx T G xa cal k N sc fb W X) : ∀ (ts : Tg) (ps : List Expr), chkGs N sc fb ts ps = true → PGs X ps (rGs G ts)
  | .nil, ps, ok => by
    cases ps with
    | nil =>
      refine PGs.imp pgs_nil fun v σ H Q ⟨F, ι, h, ρ, d, ρ', r, en, rv, e, q⟩ => ?_
      simp only [stos] at e
      split at e
      · cases e
        exact ⟨rv, q _ en fun _ _ => rfl⟩
      · cases e
    | cons _ _ => simp [chkGs] at ok
  | .name _, ps, ok => by simp [chkGs] at ok
  | .tup _, ps, ok => by simp [chkGs] at ok
  | .cons t ts, ps, ok => by
    cases ps with
    | nil => simp [chkGs] at ok
    | cons p ps =>
      simp only [chkGs, Bool.and_eq_true] at ok
      have pl : plain p = true := by
        cases t with
        | name i =>
          simp only [chkG] at ok
          split at ok
          · rename_i x e
            obtain ⟨pos, rfl⟩ := vName_eq e
            rfl
          · exact absurd ok.1 (by simp)
        | tup ts =>
          simp only [chkG] at ok
          split at ok
          · rename_i x e
            obtain ⟨⟨_, _, rfl⟩, _⟩ := vTup_eq e
            rfl
          · exact absurd ok.1 (by simp)
        | nil => simp [chkG] at ok
        | cons _ _ => simp [chkG] at ok
      refine PGs.imp (pgs_cons (snd_tg c t p ok.1) (snd_tgs c ts ps ok.2) (by rw [plain_asg pl]; rfl)) fun v σ H Q ⟨F, ι, h, ρ, d, ρ', r, en, rv, e, q⟩ => ?_
      simp only [stos] at e
      split at e
      · cases e
      · rename_i d ds
        split at e
        · rename_i ρ1 e1
          obtain ⟨u, us, rfl, ru, rus⟩ := rv
          refine ⟨u, us, rfl, F, ι, h, ρ, d, ρ1, r, en, ru, e1, fun σ' en' w1 => ?_⟩
          refine ⟨F, ι, h, ρ1, ds, ρ', r, en', rus, e, fun σ2 en2 w2 => q σ2 en2 fun vs hv => ?_⟩
          simp only [tgIn, Bool.and_eq_true] at hv
          rw [w2 vs hv.2, w1 vs hv.1]
        · cases e
theorem stos_len : ∀ (ts : Tg) (ps : List Expr) (ρ : List (Option D)) (ds : List D) (ρ' : List (Option D)), chkGs N sc fb ts ps = true → stos ts ρ ds = some ρ' → ds.length = ps.length
  | .nil, ps, ρ, ds, ρ', ok, e => by
    cases ps with
    | nil => cases ds with
      | nil => rfl
      | cons _ _ => simp [stos] at e
    | cons _ _ => simp [chkGs] at ok
  | .name _, ps, _, _, _, ok, _ => by simp [chkGs] at ok
  | .tup _, ps, _, _, _, ok, _ => by simp [chkGs] at ok
  | .cons t ts, ps, ρ, ds, ρ', ok, e => by
    cases ps with
    | nil => simp [chkGs] at ok
    | cons p ps =>
      simp only [chkGs, Bool.and_eq_true] at ok
      cases ds with
      | nil => simp [stos] at e
      | cons d ds =>
        simp only [stos] at e
        split at e
        · rename_i ρ1 e1
          simp [stos_len ts ps ρ1 ds ρ' ok.2 e]
        · cases e
end
/-! ### what is walked -/
def Walk (G : Ge) (F : Addr → Prop) (J : It) (s : Src) (H0 : Hp) (ι0 : List Addr) : Prop := ∀ (F' : Addr → Prop) (H : Hp) (ι : List Addr) (h : Hpp), (∀ a, F' a → F a ∨ H0 a = none) → Grow H0 ι0 H ι → Rel G F' ι H h → s.ok h = true → ∀ i,
  (∀ d, s.items[i]? = some d → J.go i H ∧ ∀ x H', J.yld i H x H' → Rel G F' ι H' h ∧ Grow H ι H' ι ∧ VR G F' ι H' d x) ∧ (s.items.length ≤ i → J.stop i H)
def rI (G : Ge) (xa : Nat → Addr) (cal : Cal) (it : PL.Itr) (W : WX) : TI := fun σ H R => ∃ F ι h ρ, Rel G F ι H h ∧ EnvR G F ι H ρ σ ∧ Post (src cal it ρ h) (fun s h' => ∀ J H' ι', Grow H ι H' ι' → Rel G F ι' H' h' → Walk G F J s H' ι' → R J H') (erx G F xa ι H W)
theorem pi_seq {tg l : Expr} {tl : TE} (hl : PE X l tl) : PI X tg l (fun σ H R => tl σ H fun x H1 => ∃ a xs, x = .ref a ∧ ((SqL X.K H1 a xs ∧ R (Itl X.K a) H1) ∨ (SqT X.K H1 a xs ∧ R (Itt X.K a) H1))) := by
  refine ⟨fun pins s σ H R I h => ?_⟩
  refine thn (hl.run pins s σ H _ I h) fun v s1 ⟨x, H1, I1, r1, q1⟩ => ?_
  obtain ⟨a, xs, e, q⟩ := q1
  subst e
  cases r1
  rcases q with ⟨hq, q⟩ | ⟨hq, q⟩
  · obtain ⟨its, rv, p, hz⟩ := I1.list hq
    refine wpAny_pyIter_list p.isList ?_
    refine ⟨s1.heap.objs.size, [s1.heap.objs.size], _, _, H1, rfl, I1.kept (t' := s1.toks) fun b o e => Heap.get?_push_of_some _ e, turn_list a _, ⟨_, Heap.get?_push_size _ rfl, rfl, rfl⟩, fun b hb => ?_, q⟩
    have e : b = s1.heap.objs.size := by simpa using hb
    subst e
    exact I1.fpOk (Nat.le_refl _) (I1.hok.fresh (Nat.le_refl _))
  · obtain ⟨its, rv, p, hz⟩ := I1.tuple hq
    refine wpAny_pyIter_tuple (show s1.heap.IsTuple a its.toArray from p) ?_
    refine ⟨s1.heap.objs.size, [s1.heap.objs.size], _, _, H1, rfl, I1.kept (t' := s1.toks) fun b o e => Heap.get?_push_of_some _ e, turn_tuple a _, ⟨_, Heap.get?_push_size _ rfl, rfl, rfl⟩, fun b hb => ?_, q⟩
    have e : b = s1.heap.objs.size := by simpa using hb
    subst e
    exact I1.fpOk (Nat.le_refl _) (I1.hok.fresh (Nat.le_refl _))
/-- a row at every later time: a list, or a tuple -/
theorem row_at {d : D} {v : V} {xs : List D} (r : Rel G F ι H h) (rv : VR G F ι H d v) (e : seqOf d h = some xs) : ∃ a, v = .ref a ∧
    ((∀ (F' : Addr → Prop) (H' : Hp) (ι' : List Addr) (h' : Hpp), (∀ a, F' a → F a ∨ H a = none) → Grow H ι H' ι' → Rel G F' ι' H' h' → (Src.mk xs (heldOf d h)).ok h' = true → ∃ vs, SqL G.K H' a vs ∧ VRs G F' ι' H' xs vs) ∨
     ∀ (F' : Addr → Prop) (H' : Hp) (ι' : List Addr) (h' : Hpp), (∀ a, F' a → F a ∨ H a = none) → Grow H ι H' ι' → Rel G F' ι' H' h' → (Src.mk xs (heldOf d h)).ok h' = true → ∃ vs, SqT G.K H' a vs ∧ VRs G F' ι' H' xs vs) := by
  cases d with
  | tup ys =>
    cases e
    obtain ⟨a, vs, rfl, t, u⟩ := rv
    exact ⟨a, rfl, .inr fun F' H' ι' h' f g r' _ => ⟨vs, SqT.grow g r.cellsOk t, VRs.mono g r.cellsOk f u⟩⟩
  | fl ys =>
    cases e
    obtain ⟨a, vs, rfl, ⟨t, n, _⟩, u⟩ := rv
    exact ⟨a, rfl, .inl fun F' H' ι' h' f g r' _ => ⟨vs, SqL.of (g.keep a _ t n), VRs.mono g r.cellsOk f u⟩⟩
  | ref n =>
    obtain ⟨a, rfl, i⟩ := rv
    refine ⟨a, rfl, .inl fun F' H' ι' h' f g r' ok => ?_⟩
    unfold seqOf at e
    simp only at e
    split at e
    · rename_i ys hn
      cases e
      have e2 : h'[n]? = some (.lst xs) := by
        have ok : (Src.mk xs (heldOf (.ref n) h)).held.all (fun p => decide (h'[p.1]? = some p.2)) = true := ok
        simp only [heldOf, hn, List.all_cons, List.all_nil, Bool.and_true] at ok
        exact of_decide_eq_true ok
      obtain ⟨vs, t, w⟩ := r'.cells n a _ (g.at i) e2
      exact ⟨vs, SqL.of t, w⟩
    · cases e
  | sc is =>
    cases e
    obtain ⟨a, rfl, t⟩ := rv
    refine ⟨a, rfl, .inl fun F' H' ι' h' f g r' _ => ⟨_, ?_, VRs.ints⟩⟩
    rcases t with t | ⟨t, n, _⟩
    · exact .inr t
    · exact .inl (g.rd n t)
  | non => cases e
  | bl _ => cases e
  | int _ => cases e
  | str _ => cases e
  | fn _ => cases e
theorem walk_l {d : D} {xs : List D} {a : Addr} (q : ∀ (F' : Addr → Prop) (H' : Hp) (ι' : List Addr) (h' : Hpp), (∀ a, F' a → F a ∨ H a = none) → Grow H ι H' ι' → Rel G F' ι' H' h' → (Src.mk xs (heldOf d h)).ok h' = true → ∃ vs, SqL G.K H' a vs ∧ VRs G F' ι' H' xs vs) : Walk G F (Itl G.K a) ⟨xs, heldOf d h⟩ H ι := by
  intro F' H' ι' h' f g r' ok i
  obtain ⟨vs, t, u⟩ := q F' H' ι' h' f g r' ok
  refine ⟨fun d hd => ?_, fun hi => ⟨vs, t, by rw [VRs.length u]; exact hi⟩⟩
  obtain ⟨v, e1, rv⟩ := u.get hd
  refine ⟨⟨vs, v, t, e1⟩, fun x H2 ⟨e, y⟩ => ?_⟩
  subst e
  have e2 := y vs t
  rw [e1] at e2
  cases e2
  exact ⟨r', Grow.refl, rv⟩
theorem walk_t {d : D} {xs : List D} {a : Addr} (q : ∀ (F' : Addr → Prop) (H' : Hp) (ι' : List Addr) (h' : Hpp), (∀ a, F' a → F a ∨ H a = none) → Grow H ι H' ι' → Rel G F' ι' H' h' → (Src.mk xs (heldOf d h)).ok h' = true → ∃ vs, SqT G.K H' a vs ∧ VRs G F' ι' H' xs vs) : Walk G F (Itt G.K a) ⟨xs, heldOf d h⟩ H ι := by
  intro F' H' ι' h' f g r' ok i
  obtain ⟨vs, t, u⟩ := q F' H' ι' h' f g r' ok
  refine ⟨fun d hd => ?_, fun hi => ⟨vs, t, by rw [VRs.length u]; exact hi⟩⟩
  obtain ⟨v, e1, rv⟩ := u.get hd
  refine ⟨⟨vs, v, t, e1⟩, fun x H2 ⟨e, y⟩ => ?_⟩
  subst e
  have e2 := y vs t
  rw [e1] at e2
  cases e2
  exact ⟨r', Grow.refl, rv⟩
theorem src_no {s : Src} (e : s.held = []) (h : Hpp) : s.ok h = true := by
  unfold Src.ok; rw [e]; rfl
/-- the held cells stand as they are now -/
theorem held_now {d : D} {h : Hpp} : (heldOf d h).all (fun p => decide (h[p.1]? = some p.2)) = true := by
  unfold heldOf
  split
  · split
    · rename_i e
      simp [e]
    · rfl
  · rfl
theorem snd_of (c : Ctx T G xa cal k N sc fb W X) {e : E} {tg p : Expr} (he : PE X p (rE G xa cal e W)) : PI X tg p (rI G xa cal (.of e) W) := by
  refine PI.imp (pi_seq he) fun σ H R ⟨F, ι, h, ρ, r, en, P⟩ => ?_
  simp only [src] at P
  refine rE_of r en P.bind fun d1 h1 v1 H1 ι1 P1 g1 r1 s1 => ?_
  unfold srcOf at P1
  split at P1
  · rename_i xs e
    rw [c.hK]
    have hn := held_now (d := d1) (h := h1)
    obtain ⟨a, rfl, q⟩ := row_at r1 s1 e
    rcases q with q | q
    · obtain ⟨vs, t, _⟩ := q F H1 ι1 h1 (fun _ z => .inl z) Grow.refl r1 hn
      exact ⟨a, vs, rfl, .inl ⟨t, P1 _ H1 ι1 g1 r1 (walk_l q)⟩⟩
    · obtain ⟨vs, t, _⟩ := q F H1 ι1 h1 (fun _ z => .inl z) Grow.refl r1 hn
      exact ⟨a, vs, rfl, .inr ⟨t, P1 _ H1 ι1 g1 r1 (walk_t q)⟩⟩
  · exact P1.elim
theorem range_get (lo : Int) (n : Nat) (cc : Int) (i : Nat) : (rangeL lo n cc)[i]? = if i < n then some (.int (lo + (i : Int) * cc)) else none := by
  unfold rangeL
  rw [List.getElem?_map]
  by_cases hi : i < n
  · rw [if_pos hi, List.getElem?_range hi]; rfl
  · rw [if_neg hi, List.getElem?_eq_none (by simp; omega)]; rfl
theorem walk_r (lo : Int) (n : Nat) : Walk G F (L2.Itr lo n) ⟨rangeL lo n 1, []⟩ H ι := by
  intro F' H' ι' h' f g r' ok i
  refine ⟨fun d hd => ?_, fun hi => ?_⟩
  · have hd : (rangeL lo n 1)[i]? = some d := hd
    rw [range_get] at hd
    split at hd
    · rename_i hi
      cases hd
      refine ⟨hi, fun x H2 ⟨e1, e2⟩ => ?_⟩
      subst e1 e2
      refine ⟨r', Grow.refl, ?_⟩
      show V.int (lo + i) = V.int (lo + i * 1)
      rw [Int.mul_one]
    · cases hd
  · have hi : (rangeL lo n 1).length ≤ i := hi
    unfold rangeL at hi
    rw [List.length_map, List.length_range] at hi
    exact hi
theorem snd_range1 (c : Ctx T G xa cal k N sc fb W X) {a : E} {tg x : Expr} {q pos : Pos} (gl : glC sc "range" = true) (px : plain x = true) (ha : PE X x (rE G xa cal a W)) : PI X tg (.Call (.Name "range" q) [x] [] pos) (rI G xa cal (.range1 a) W) := by
  refine PI.imp (pi_range1 (c.gl gl) (c.free _ (by decide)) (pa_cons ha pa_nil (plain_star px _ _)) (by rw [plain_star px]; rfl)) fun σ H R ⟨F, ι, h, ρ, r, en, P⟩ => ?_
  simp only [src] at P
  refine rE_of r en P.bind fun d1 h1 v1 H1 ι1 P1 g1 r1 s1 => ?_
  split at P1
  · rename_i i
    unfold srcRange at P1
    split at P1
    · rename_i cc
      cases (show v1 = V.int i from s1)
      refine ⟨i, rfl, cc.2.2.1, cc.2.2.2.1, ?_⟩
      have P1 : ∀ J H' ι', Grow H ι H' ι' → Rel G F ι' H' h1 → Walk G F J ⟨rangeL 0 (i - 0).toNat 1, []⟩ H' ι' → R J H' := P1
      rw [Int.sub_zero] at P1
      exact P1 _ H1 ι1 g1 r1 (walk_r 0 i.toNat)
    · exact P1.elim
  · exact P1.elim
theorem snd_range2 (c : Ctx T G xa cal k N sc fb W X) {a b : E} {tg x y : Expr} {q pos : Pos} (gl : glC sc "range" = true) (px : plain x = true) (py : plain y = true) (ha : PE X x (rE G xa cal a W)) (hb : PE X y (rE G xa cal b W)) : PI X tg (.Call (.Name "range" q) [x, y] [] pos) (rI G xa cal (.range2 a b) W) := by
  refine PI.imp (pi_range2 (c.gl gl) (c.free _ (by decide)) (pa_cons ha (pa_cons hb pa_nil (plain_star py _ _)) (plain_star px _ _)) (by rw [plain_star px, plain_star py]; rfl) (plain_star py _ _)) fun σ H R ⟨F, ι, h, ρ, r, en, P⟩ => ?_
  simp only [src] at P
  refine rE_of r en P.bind fun d1 h1 v1 H1 ι1 P1 g1 r1 s1 => ?_
  have P1' : Post ((ev cal b ρ h1).bind _) (fun s h' => ∀ J H' ι', Grow H ι H' ι' → Rel G F ι' H' h' → Walk G F J s H' ι' → R J H') (erx G F xa ι1 H1 W) := P1.imp (fun _ _ z => z) fun _ _ z => z.from g1
  refine rE_of r1 (en.up g1 r.cellsOk) P1'.bind fun d2 h2 v2 H2 ι2 P2 g2 r2 s2 => ?_
  split at P2
  · rename_i i j
    unfold srcRange at P2
    split at P2
    · rename_i cc
      cases (show v1 = V.int i from s1)
      cases (show v2 = V.int j from s2)
      refine ⟨i, j, rfl, ⟨cc.1, cc.2.1, cc.2.2.1, cc.2.2.2.1⟩, ?_⟩
      exact P2 _ H2 ι2 (g1.trans g2) r2 (walk_r i (j - i).toNat)
    · exact P2.elim
  · exact P2.elim
end
end PL
end
section
set_option Elab.async false
set_option linter.all false
set_option maxRecDepth 100000
set_option maxHeartbeats 1000000
/-! PLS11: comprehensions. -/
namespace PL
open PySem PySem.Spec PyProof.Rows L2
section
variable {T : Tab} {G : Ge} {xa : Nat → Addr} {cal : Cal} {k : Nat} {N : List Str} {sc : Scope} {fb : Str → Bool} {W : WX} {X : Cx} {F : Addr → Prop} {ι : List Addr} {H : Hp} {h : Hpp} {ρ : List (Option D)} {σ : L2.St} {Q : VK}
theorem Ctx.blk (c : Ctx T G xa cal k N sc fb W X) (scope : Scope) (s : Shared) (H : Hp) (C : Addr) (cl : List (Str × Addr)) (fp : List Addr) :
    Ctx T G xa cal k N (relS scope sc) (fbOf scope) (fun _ _ _ _ => False) (X.blk s H scope (compEnvC scope cl C X.env) fp) where
  hK := c.hK
  hN := c.hN
  nd := c.nd
  sc := by rw [← c.sc]; rfl
  fn := rfl
  calm := c.calm
  room := c.room
  takes := takes_none5
  fnm := c.fnm
  fns := c.fns
  nf := c.nf
  nx := c.nx
  exc := c.exc
  exm := c.exm
  free := c.free
  cst := c.cst
/-- a fresh place set aside -/
theorem Rel.updF {D : Addr} {o : HO} (r : Rel G F ι H h) (n : H D = none) : Rel G (fun a => F a ∨ a = D) ι (L2.upd H D o) h ∧ Grow H ι (L2.upd H D o) ι := by
  obtain ⟨r1, g⟩ := r.upd (o := o) n
  have f : ∀ a, (F a ∨ a = D) → F a ∨ H a = none := fun a z => by
    rcases z with z | z
    · exact .inl z
    · rw [z]; exact .inr n
  refine ⟨⟨r.len, r.nd, fun j a c e1 e2 => ?_, fun a ha z => ?_, fun a z => ?_⟩, g⟩
  · refine CR.mono g r.cellsOk f ?_ (r.cells j a c e1 e2)
    obtain ⟨o', q, _⟩ := r.cellsOk a (List.mem_of_getElem? e1)
    rw [upd_ne (fun z => by rw [z, n] at q; cases q)]
  · rcases z with z | z
    · exact r.own a ha z
    · obtain ⟨o', q, _⟩ := r.cellsOk a ha
      rw [z, n] at q; cases q
  · rcases z with z | z
    · exact r1.frn a z
    · rw [z]; exact ⟨o, upd_same⟩
theorem Rel.weakF {F' : Addr → Prop} (r : Rel G F' ι H h) (s : ∀ a, F a → F' a) : Rel G F ι H h where
  len := r.len
  nd := r.nd
  cells := fun j a c e1 e2 => CR.mono Grow.refl r.cellsOk (fun a z => .inl (s a z)) rfl (r.cells j a c e1 e2)
  own := fun a ha z => r.own a ha (s a z)
  frn := fun a z => r.frn a (s a z)
mutual
theorem VR.updFr {D : Addr} {vs ws : List V} (fD : F D) (nD : D ∉ ι) (hD : H D = some (.lst vs)) : ∀ {d : PL.D} {v : V}, VR G F ι H d v → VR G F ι (L2.upd H D (.lst ws)) d v
  | .non, _, r => r
  | .bl _, _, r => r
  | .int _, _, r => r
  | .str _, _, r => r
  | .tup xs, v, r => by
    obtain ⟨a, us, e, s, t⟩ := r
    refine ⟨a, us, e, ?_, VRs.updFr fD nD hD t⟩
    rcases s with s | s
    · left
      have ne : a ≠ D := fun z => by
        rcases s with s | ⟨o, s⟩
        · rw [z, hD] at s; cases s
        · rw [z, hD] at s; cases s
      rcases s with s | ⟨o, s⟩
      · exact .inl (by rw [upd_ne ne]; exact s)
      · exact .inr ⟨o, by rw [upd_ne ne]; exact s⟩
    · exact .inr s
  | .fl xs, v, r => by
    obtain ⟨a, us, e, ⟨s, n, nf⟩, t⟩ := r
    have ne : a ≠ D := fun z => nf (by rw [z]; exact fD)
    exact ⟨a, us, e, ⟨by rw [upd_ne ne]; exact s, n, nf⟩, VRs.updFr fD nD hD t⟩
  | .ref n, v, r => r
  | .fn _, _, r => r
  | .sc is, v, r => by
    obtain ⟨a, e, s⟩ := r
    refine ⟨a, e, ?_⟩
    rcases s with s | ⟨s, n, nf⟩
    · exact .inl s
    · have ne : a ≠ D := fun z => nf (by rw [z]; exact fD)
      refine .inr ⟨?_, n, nf⟩
      rcases s with s | ⟨o, s⟩
      · exact .inl (by rw [upd_ne ne]; exact s)
      · exact .inr ⟨o, by rw [upd_ne ne]; exact s⟩
theorem VRs.updFr {D : Addr} {vs ws : List V} (fD : F D) (nD : D ∉ ι) (hD : H D = some (.lst vs)) : ∀ {d : List PL.D} {v : List V}, VRs G F ι H d v → VRs G F ι (L2.upd H D (.lst ws)) d v
  | [], _, r => r
  | x :: xs, us, r => by
    obtain ⟨v, t, e, r1, r2⟩ := r
    exact ⟨v, t, e, VR.updFr fD nD hD r1, VRs.updFr fD nD hD r2⟩
end
theorem Rel.updFr {D : Addr} {vs ws : List V} (r : Rel G F ι H h) (fD : F D) (hD : H D = some (.lst vs)) : Rel G F ι (L2.upd H D (.lst ws)) h := by
  have nD : D ∉ ι := fun z => r.own D z fD
  refine ⟨r.len, r.nd, fun j a c e1 e2 => ?_, r.own, fun a z => ?_⟩
  · have ne : a ≠ D := fun z => nD (by rw [← z]; exact List.mem_of_getElem? e1)
    have q := r.cells j a c e1 e2
    cases c with
    | lst xs =>
      obtain ⟨us, t, w⟩ := q
      exact ⟨us, by rw [upd_ne ne]; exact t, VRs.updFr fD nD hD w⟩
    | dic _ => exact q
    | obj _ _ => exact q
  · by_cases e : a = D
    · rw [e]; exact ⟨_, upd_same⟩
    · obtain ⟨o, q⟩ := r.frn a z
      exact ⟨o, by rw [upd_ne e]; exact q⟩
mutual
theorem VR.adopt {F' : Addr → Prop} {D : Addr} (s : ∀ a, F a → F' a) (fD : F' D) : ∀ {d : PL.D} {v : V}, VR G F' ι H d v → VR G F (ι ++ [D]) H d v
  | .non, _, r => r
  | .bl _, _, r => r
  | .int _, _, r => r
  | .str _, _, r => r
  | .tup xs, v, r => by
    obtain ⟨a, us, e, q, t⟩ := r
    exact ⟨a, us, e, q, VRs.adopt s fD t⟩
  | .fl xs, v, r => by
    obtain ⟨a, us, e, ⟨q, n, nf⟩, t⟩ := r
    refine ⟨a, us, e, ⟨q, fun z => ?_, fun z => nf (s a z)⟩, VRs.adopt s fD t⟩
    rcases List.mem_append.mp z with z | z
    · exact n z
    · exact nf (by rw [show a = D by simpa using z]; exact fD)
  | .ref n, v, r => by
    obtain ⟨a, e, i⟩ := r
    obtain ⟨hn, _⟩ := List.getElem?_eq_some_iff.mp i
    exact ⟨a, e, by rw [List.getElem?_append_left hn]; exact i⟩
  | .fn _, _, r => r
  | .sc is, v, r => by
    obtain ⟨a, e, q⟩ := r
    refine ⟨a, e, ?_⟩
    rcases q with q | ⟨q, n, nf⟩
    · exact .inl q
    · refine .inr ⟨q, fun z => ?_, fun z => nf (s a z)⟩
      rcases List.mem_append.mp z with z | z
      · exact n z
      · exact nf (by rw [show a = D by simpa using z]; exact fD)
theorem VRs.adopt {F' : Addr → Prop} {D : Addr} (s : ∀ a, F a → F' a) (fD : F' D) : ∀ {d : List PL.D} {v : List V}, VRs G F' ι H d v → VRs G F (ι ++ [D]) H d v
  | [], _, r => r
  | x :: xs, us, r => by
    obtain ⟨v, t, e, r1, r2⟩ := r
    exact ⟨v, t, e, VR.adopt s fD r1, VRs.adopt s fD r2⟩
end
theorem Rel.adopt {F' : Addr → Prop} {D : Addr} {ds : List PL.D} {vs : List V} (r : Rel G F' ι H h) (s : ∀ a, F a → F' a) (fD : F' D) (nD : ¬ F D) (hD : H D = some (.lst vs)) (t : VRs G F' ι H ds vs) : Rel G F (ι ++ [D]) H (h ++ [.lst ds]) := by
  have ni : D ∉ ι := fun z => r.own D z fD
  refine ⟨by simp [r.len], ?_, fun j a c e1 e2 => ?_, fun a ha z => ?_, fun a z => r.frn a (s a z)⟩
  · rw [List.nodup_append]
    refine ⟨r.nd, by simp, fun a ha b hb => ?_⟩
    have e : b = D := by simpa using hb
    rw [e]
    exact fun z => ni (by rw [← z]; exact ha)
  · by_cases hj : j < ι.length
    · rw [List.getElem?_append_left hj] at e1
      rw [List.getElem?_append_left (by rw [← r.len]; exact hj)] at e2
      have q := r.cells j a c e1 e2
      cases c with
      | lst xs =>
        obtain ⟨us, t, w⟩ := q
        exact ⟨us, t, VRs.adopt s fD w⟩
      | dic _ => exact q
      | obj _ _ => exact q
    · rw [List.getElem?_append_right (by omega)] at e1
      rw [List.getElem?_append_right (by rw [← r.len]; omega)] at e2
      have k0 : j - ι.length = 0 := by
        have := (List.getElem?_eq_some_iff.mp e1).1
        simp at this; omega
      rw [k0] at e1
      rw [← r.len, k0] at e2
      simp at e1 e2
      subst e1 e2
      exact ⟨vs, hD, VRs.adopt s fD t⟩
  · rcases List.mem_append.mp ha with ha | ha
    · exact r.own a ha (s a z)
    · exact nD (by rw [← (show a = D by simpa using ha)]; exact z)
theorem Grow.adopt {H' : Hp} {ι' : List Addr} {D : Addr} (g : Grow H ι H' ι') (n : H D = none) : Grow H ι H' (ι' ++ [D]) := by
  refine ⟨g.keep, ?_, fun a ha => ?_⟩
  · obtain ⟨m, e⟩ := g.pre
    exact ⟨m ++ [D], by rw [e, List.append_assoc]⟩
  · rcases List.mem_append.mp ha with ha | ha
    · exact g.new a ha
    · rw [show a = D by simpa using ha]; exact .inr n
theorem Grow.updN {H' : Hp} {ι' : List Addr} {D : Addr} {o : HO} (g : Grow H ι H' ι') (n : H D = none) : Grow H ι (L2.upd H' D o) ι' :=
  ⟨fun a o' e ni => by rw [upd_ne (ne_of_none e n)]; exact g.keep a o' e ni, g.pre, g.new⟩
/-- the list that a comprehension has made -/
theorem made_ok {F' : Addr → Prop} {D : Addr} {th : Bool} {ι0 : List Addr} {H0 : Hp} {ds : List PL.D} {vs : List V} {E : Nat → Hpp → Prop} (r : Rel G F' ι H h) (s : ∀ a, F a → F' a) (fD : F' D) (nD : ¬ F D) (n0 : H0 D = none) (g : Grow H0 ι0 H ι) (hD : H D = some (.lst vs)) (t : VRs G F' ι H ds vs)
    (P : Post (new th ds h) (okp G F ι0 H0 Q) E) : Q (.ref D) H := by
  have ni : D ∉ ι := fun z => r.own D z fD
  cases th with
  | true =>
    refine P (.ref D) H (ι ++ [D]) (g.adopt n0) (r.adopt s fD nD hD t) ⟨D, rfl, ?_⟩
    rw [List.getElem?_append_right (by rw [r.len]; exact Nat.le_refl _), r.len]
    simp
  | false =>
    refine P (.ref D) H ι g (r.weakF s) ⟨D, vs, rfl, ⟨hD, ni, nD⟩, VRs.mono Grow.refl r.cellsOk (fun a z => .inl (s a z)) t⟩
def rTs (G : Ge) (xa : Nat → Addr) (cal : Cal) (es : Es) (W : WX) : TT := fun σ H Q => ∃ F ι h ρ, Rel G F ι H h ∧ EnvR G F ι H ρ σ ∧ Post (evc cal es ρ h) (okg G F ι H fun b H' _ => Q b H') (erx G F xa ι H W)
theorem PTs.imp {e : List Expr} {t t' : TT} (p : PTs X e t) (i : ∀ σ H Q, t' σ H Q → t σ H Q) : PTs X e t' := ⟨fun pins s σ H Q I q => p.run pins s σ H Q I (i _ _ _ q)⟩
theorem snd_ts0 : PTs X [] (rTs G xa cal .nil W) := PTs.imp pts_nil fun σ H Q ⟨F, ι, h, ρ, r, en, P⟩ => P H ι Grow.refl r
theorem snd_ts1 {e : E} {p : Expr} (he : PT X p (rT G xa cal e W)) : PTs X [p] (rTs G xa cal (.cons e .nil) W) := PTs.imp (pts_one he) fun σ H Q ⟨F, ι, h, ρ, r, en, P⟩ => by
  simp only [evc] at P
  refine rT_of r en P.bind fun b h1 H1 ι1 P1 g1 r1 => ?_
  cases b with
  | true => exact P1 H1 ι1 g1 r1
  | false => exact P1 H1 ι1 g1 r1
theorem Post.noEr {α : Type} {r : R α} {O : α → Hpp → Prop} {E : Nat → Hpp → Prop} (p : Post (noEr r) O E) : Post r O (fun _ _ => False) := by
  cases r with
  | ok a h => exact p
  | er c h => exact p
  | no => exact p
theorem Post.mono_er {α : Type} {r : R α} {O : α → Hpp → Prop} {E : Nat → Hpp → Prop} (p : Post r O (fun _ _ => False)) : Post r O E := p.imp (fun _ _ z => z) fun _ _ z => z.elim
theorem PS.imp2 {st : Stmt} {t t' : TS} (p : PS X st t) (i : ∀ D σ H, t' D σ H → t D σ H) : PS X st t' := ⟨fun pins s σ H D I q => p.run pins s σ H D I (i _ _ _ q)⟩
theorem comp_red (c : Ctx T G xa cal k N sc fb W X) {th : Bool} {elt : E} {tg : Tg} {it : PL.Itr} {cs : Es} {own : List Nat} (ti : tgIn own tg = true) (r : Rel G F ι H h) (en : EnvR G F ι H ρ σ) (P : Post (ev cal (.comp th elt tg it cs own) ρ h) (okp G F ι H Q) (erx G F xa ι H W)) :
    tLc (rI G xa cal it W) (rG G tg) (rTs G xa cal cs fun _ _ _ _ => False) (rE G xa cal elt fun _ _ _ _ => False) own σ H Q := by
  simp only [ev] at P
  refine ⟨F, ι, h, ρ, r, en, P.bind.imp (fun s h1 P1 J H1 ι1 g1 r1 wk => ?_) fun _ _ z => z⟩
  intro D nD
  split at P1
  rotate_left
  · exact P1.elim
  rename_i short
  have P2 := (Post.from P1 g1).bind.noEr
  have en1 := en.up g1 r.cellsOk
  have ff : ∀ a, (F a ∨ a = D) → F a ∨ H1 a = none := fun a z => by
    rcases z with z | z
    · exact .inl z
    · rw [z]; exact .inr nD
  have nF : ¬ F D := r1.nof nD
  obtain ⟨r2, g2⟩ := r1.updF (o := .lst []) nD
  refine ⟨fun i m H => i + m = s.items.length ∧ ∃ ι h acc vs, Grow H1 ι1 H ι ∧ Rel G (fun a => F a ∨ a = D) ι H h ∧ H D = some (.lst vs) ∧ VRs G (fun a => F a ∨ a = D) ι H acc vs ∧ acc.length ≤ i ∧
    Post (compL s.ok (fun d => sto tg (PL.wipe ρ own) d) (fun ρ h => evc cal cs ρ h) (fun ρ h => ev cal elt ρ h) (s.items.drop i) h) (fun ys h' => Post (new th (acc ++ ys) h') (okp G F ι1 H1 Q) (erx G F xa ι1 H1 W)) (fun _ _ => False),
    ⟨s.items.length, by omega, ι1, h1, [], [], g2, r2, upd_same, rfl, Nat.le_refl _, P2⟩, ?_⟩
  rintro i m H' ⟨him, ι2, h2, acc, vs, gg, rr, hD, ra, hl, PP⟩
  have enw : ∀ {H3 : Hp} {ι3 : List Addr}, Grow H1 ι1 H3 ι3 → EnvR G (fun a => F a ∨ a = D) ι3 H3 (PL.wipe ρ own) (L2.wipe σ own) := fun g => (en1.mono g r1.cellsOk ff).wipe own
  cases m with
  | zero =>
    left
    have hn : s.items.length ≤ i := by omega
    rw [List.drop_eq_nil_of_le hn] at PP
    simp only [compL] at PP
    split at PP
    · rename_i ck
      refine ⟨(wk _ H' ι2 h2 ff gg rr ck i).2 hn, ?_⟩
      have PP : Post (new th (acc ++ []) h2) (okp G F ι1 H1 Q) (erx G F xa ι1 H1 W) := PP
      rw [List.append_nil] at PP
      exact made_ok rr (fun a z => .inl z) (.inr rfl) nF nD gg hD ra PP
    · exact PP.elim
  | succ m =>
    right
    have hi : i < s.items.length := by omega
    have hd : s.items.drop i = s.items[i] :: s.items.drop (i + 1) := List.drop_eq_getElem_cons hi
    rw [hd] at PP
    simp only [compL] at PP
    split at PP
    rotate_left
    · exact PP.elim
    rename_i ck
    obtain ⟨go, yl⟩ := (wk _ H' ι2 h2 ff gg rr ck i).1 s.items[i] (List.getElem?_eq_getElem hi)
    refine ⟨go, fun H'' => i + 1 + m = s.items.length ∧ ∃ ι h acc vs, Grow H1 ι1 H'' ι ∧ Rel G (fun a => F a ∨ a = D) ι H'' h ∧ H'' D = some (.lst vs) ∧ VRs G (fun a => F a ∨ a = D) ι H'' acc vs ∧ acc.length ≤ i + 1 ∧
      Post (compL s.ok (fun d => sto tg (PL.wipe ρ own) d) (fun ρ h => evc cal cs ρ h) (fun ρ h => ev cal elt ρ h) (s.items.drop (i + 1)) h) (fun ys h' => Post (new th (acc ++ ys) h') (okp G F ι1 H1 Q) (erx G F xa ι1 H1 W)) (fun _ _ => False),
      fun H'' z => ⟨m, by omega, z⟩, fun x H3 hy => ?_⟩
    obtain ⟨r3, g3, rv⟩ := yl x H3 hy
    have gg3 := gg.trans g3
    split at PP
    · exact PP.elim
    rename_i ρ1 hsto
    have hD3 : H3 D = some (.lst vs) := g3.keep D _ hD (fun z => rr.own D z (.inr rfl))
    have ra3 := ra.up g3 rr.cellsOk
    refine ⟨_, ι2, h2, PL.wipe ρ own, s.items[i], ρ1, r3, enw gg3, rv, hsto, fun σ2 en2 w2 => ⟨?_, ?_⟩⟩
    · rw [w2 own ti]; exact wipe_wipe fun _ z => z
    refine ⟨_, ι2, h2, ρ1, r3, en2, PP.bind.imp (fun b h4 P4 H4 ι4 g4 r4 => ?_) fun _ _ z => z.elim⟩
    have hD4 : H4 D = some (.lst vs) := g4.keep D _ hD3 (fun z => r3.own D z (.inr rfl))
    have ra4 := ra3.up g4 r3.cellsOk
    cases b with
    | false =>
      exact ⟨by omega, ι4, h4, acc, vs, gg3.trans g4, r4, hD4, ra4, by omega, P4⟩
    | true =>
      refine ⟨_, ι4, h4, ρ1, r4, en2.up g4 r3.cellsOk, (Post.bind (show Post (R.bind _ _) _ _ from P4)).imp (fun y h5 P5 v H5 ι5 g5 r5 sv => ?_) fun _ _ z => z.elim⟩
      have hD5 : H5 D = some (.lst vs) := g5.keep D _ hD4 (fun z => r4.own D z (.inr rfl))
      have ra5 := ra4.up g5 r4.cellsOk
      have ni5 : D ∉ ι5 := fun z => r5.own D z (.inr rfl)
      have hlen : (acc ++ [y]).length ≤ i + 1 := by rw [List.length_append]; show acc.length + 1 ≤ _; omega
      refine ⟨vs, hD5, by rw [VRs.length ra5, line_eq]; omega, by omega, ι5, h5, acc ++ [y], vs ++ [v], (gg3.trans (g4.trans g5)).updN nD, r5.updFr (.inr rfl) hD5, upd_same, (ra5.append (VRs.one sv)).updFr (.inr rfl) ni5 hD5, hlen, ?_⟩
      refine P5.bind.imp (fun ys h6 P6 => ?_) fun _ _ z => z
      rw [List.append_assoc]
      exact P6
theorem snd_comp (c : Ctx T G xa cal k N sc fb W X) {th : Bool} {elt : E} {tg : Tg} {it : PL.Itr} {cs : Es} {own : List Nat} {e t i : Expr} {ifs : List Expr} {scope : Scope} {pos : Pos}
    (pi : plain i = true) (ok : blkC N sc scope (ownOf N own) = true) (ti : tgIn own tg = true) (hi : PI X t i (rI G xa cal it W))
    (hg : ∀ X', Ctx T G xa cal k N (relS scope sc) (fbOf scope) (fun _ _ _ _ => False) X' → PG X' t (rG G tg))
    (ht : ∀ X', Ctx T G xa cal k N (relS scope sc) (fbOf scope) (fun _ _ _ _ => False) X' → PTs X' ifs (rTs G xa cal cs fun _ _ _ _ => False))
    (he : ∀ X', Ctx T G xa cal k N (relS scope sc) (fbOf scope) (fun _ _ _ _ => False) X' → PE X' e (rE G xa cal elt fun _ _ _ _ => False)) :
    PE X (.ListComp e [⟨t, i, ifs, 0⟩] scope pos) (rE G xa cal (.comp th elt tg it cs own) W) := by
  have bo : BlkOk X.N X.env.scope scope (ownOf N own) := by rw [c.hN, c.sc]; exact blkOk_by ok
  refine PE.imp (pe_lc c.calm (by rw [c.hN]; exact c.nd) hi bo (fun s H C cl fp => hg _ (c.blk scope s H C cl fp)) (fun s H C cl fp => ht _ (c.blk scope s H C cl fp)) (fun s H C cl fp => he _ (c.blk scope s H C cl fp)) (plain_fold pi X.env)) fun σ H Q ⟨F, ι, h, ρ, r, en, P⟩ => ?_
  rw [ownOf_ix]
  exact comp_red c ti r en P
theorem snd_setComp (c : Ctx T G xa cal k N sc fb W X) {th : Bool} {elt : E} {tg : Tg} {it : PL.Itr} {cs : Es} {own : List Nat} {e t i : Expr} {ifs : List Expr} {scope : Scope} {pos py spos : Pos} {j : Nat} {y : Str}
    (pi : plain i = true) (ok : blkC N sc scope (ownOf N own) = true) (ti : tgIn own tg = true) (hi : PI X t i (rI G xa cal it W))
    (hg : ∀ X', Ctx T G xa cal k N (relS scope sc) (fbOf scope) (fun _ _ _ _ => False) X' → PG X' t (rG G tg))
    (ht : ∀ X', Ctx T G xa cal k N (relS scope sc) (fbOf scope) (fun _ _ _ _ => False) X' → PTs X' ifs (rTs G xa cal cs fun _ _ _ _ => False))
    (he : ∀ X', Ctx T G xa cal k N (relS scope sc) (fbOf scope) (fun _ _ _ _ => False) X' → PE X' e (rE G xa cal elt fun _ _ _ _ => False))
    (hj : N[j]? = some y) (hy : sc.names.lookup y = some .local) (hsw : swapsWith (.ListComp e [⟨t, i, ifs, 0⟩] scope pos) (some (.Name y py)) spos.line X.env = pure true) :
    PS X (.Assign [.Name y py] (.ListComp e [⟨t, i, ifs, 0⟩] scope pos) spos) (tAsg (rE G xa cal (.comp th elt tg it cs own) W) (gName j)) := by
  have bo : BlkOk X.N X.env.scope scope (ownOf N own) := by rw [c.hN, c.sc]; exact blkOk_by ok
  refine PS.imp (ps_setLc c.calm (by rw [c.hN]; exact c.nd) (by rw [c.hN]; exact hj) (by rw [c.sc]; exact hy) hsw hi bo (fun s H C cl fp => hg _ (c.blk scope s H C cl fp)) (fun s H C cl fp => ht _ (c.blk scope s H C cl fp)) (fun s H C cl fp => he _ (c.blk scope s H C cl fp)) (plain_fold pi X.env)) fun D σ H ⟨F, ι, h, ρ, r, en, P⟩ => ?_
  rw [ownOf_ix]
  exact comp_red c ti r en P
end
end PL
end
section
set_option Elab.async false
set_option linter.all false
set_option maxRecDepth 100000
set_option maxHeartbeats 1000000
/-! PLS12: enumerate, zip; all expressions together. -/
namespace PL
open PySem PySem.Spec PyProof.Rows L2
section
variable {T : Tab} {G : Ge} {xa : Nat → Addr} {cal : Cal} {k : Nat} {N : List Str} {sc : Scope} {fb : Str → Bool} {W : WX} {X : Cx} {F : Addr → Prop} {ι : List Addr} {H : Hp} {h : Hpp} {ρ : List (Option D)} {σ : L2.St} {Q : VK}
theorem enum_get : ∀ (xs : List D) (j i : Nat), (enumL j xs)[i]? = match xs[i]? with
    | some d => some (.tup [.int ((j + i : Nat) : Int), d])
    | none => none
  | [], j, i => by simp [enumL]
  | x :: xs, j, 0 => by simp [enumL]
  | x :: xs, j, i + 1 => by
    have e := enum_get xs (j + 1) i
    simp only [enumL, List.getElem?_cons_succ]
    rw [e, show j + 1 + i = j + (i + 1) by omega]
theorem enum_len : ∀ (xs : List D) (j : Nat), (enumL j xs).length = xs.length
  | [], _ => rfl
  | x :: xs, j => by simp [enumL, enum_len xs (j + 1)]
theorem zip_get : ∀ (xs ys : List D) (i : Nat), (zipL xs ys)[i]? = match xs[i]?, ys[i]? with
    | some x, some y => some (.tup [x, y])
    | _, _ => none
  | [], ys, i => by simp [zipL]
  | x :: xs, [], i => by
    simp only [zipL, List.getElem?_nil]
    cases (x :: xs)[i]? <;> rfl
  | x :: xs, y :: ys, 0 => by simp [zipL]
  | x :: xs, y :: ys, i + 1 => by
    simp only [zipL, List.getElem?_cons_succ]
    exact zip_get xs ys i
theorem zip_len : ∀ (xs ys : List D), (zipL xs ys).length = min xs.length ys.length
  | [], ys => by simp [zipL]
  | x :: xs, [] => by simp [zipL]
  | x :: xs, y :: ys => by simp [zipL, zip_len xs ys]
theorem pair_ok {T : Addr} {a b : D} {x y : V} (r : Rel G F ι H h) (n : H T = none) (ra : VR G F ι H a x) (rb : VR G F ι H b y) : Rel G F ι (L2.upd H T (.tup [x, y])) h ∧ Grow H ι (L2.upd H T (.tup [x, y])) ι ∧ VR G F ι (L2.upd H T (.tup [x, y])) (.tup [a, b]) (.ref T) := by
  obtain ⟨r', g⟩ := r.upd (o := .tup [x, y]) n
  exact ⟨r', g, T, [x, y], rfl, .inl (.inl upd_same), VRs.two (VR.up g r.cellsOk ra) (VR.up g r.cellsOk rb)⟩
def LAt (G : Ge) (F : Addr → Prop) (H : Hp) (ι : List Addr) (xs : List D) (hl : List (Nat × Cell)) (a : Addr) : Prop := ∀ (F' : Addr → Prop) (H' : Hp) (ι' : List Addr) (h' : Hpp), (∀ a, F' a → F a ∨ H a = none) → Grow H ι H' ι' → Rel G F' ι' H' h' → (hl.all fun p => decide (h'[p.1]? = some p.2)) = true → ∃ vs, SqL G.K H' a vs ∧ VRs G F' ι' H' xs vs
def TAt (G : Ge) (F : Addr → Prop) (H : Hp) (ι : List Addr) (xs : List D) (a : Addr) : Prop := ∀ (F' : Addr → Prop) (H' : Hp) (ι' : List Addr) (h' : Hpp), (∀ a, F' a → F a ∨ H a = none) → Grow H ι H' ι' → Rel G F' ι' H' h' → ∃ vs, SqT G.K H' a vs ∧ VRs G F' ι' H' xs vs
theorem ls_at {d : D} {v : V} {xs : List D} (r : Rel G F ι H h) (rv : VR G F ι H d v) (e : lsOf d h = some xs) : ∃ a, v = .ref a ∧ LAt G F H ι xs (heldOf d h) a := by
  cases d with
  | fl ys =>
    cases e
    obtain ⟨a, vs, rfl, ⟨t, n, _⟩, u⟩ := rv
    exact ⟨a, rfl, fun F' H' ι' h' f g r' _ => ⟨vs, SqL.of (g.keep a _ t n), VRs.mono g r.cellsOk f u⟩⟩
  | ref n =>
    obtain ⟨a, rfl, i⟩ := rv
    refine ⟨a, rfl, fun F' H' ι' h' f g r' ok => ?_⟩
    unfold lsOf lstOf at e
    simp only at e
    split at e
    · rename_i ys hn
      cases e
      have e2 : h'[n]? = some (.lst xs) := by
        simp only [heldOf, hn, List.all_cons, List.all_nil, Bool.and_true] at ok
        exact of_decide_eq_true ok
      obtain ⟨vs, t, w⟩ := r'.cells n a _ (g.at i) e2
      exact ⟨vs, SqL.of t, w⟩
    · cases e
  | sc is =>
    cases e
    obtain ⟨a, rfl, t⟩ := rv
    refine ⟨a, rfl, fun F' H' ι' h' f g r' _ => ⟨_, ?_, VRs.ints⟩⟩
    rcases t with t | ⟨t, n, _⟩
    · exact .inr t
    · exact .inl (g.rd n t)
  | tup _ => cases e
  | non => cases e
  | bl _ => cases e
  | int _ => cases e
  | str _ => cases e
  | fn _ => cases e
theorem tup_at {v : V} {xs : List D} (r : Rel G F ι H h) (rv : VR G F ι H (.tup xs) v) : ∃ a, v = .ref a ∧ TAt G F H ι xs a := by
  obtain ⟨a, vs, rfl, t, u⟩ := rv
  exact ⟨a, rfl, fun F' H' ι' h' f g r' => ⟨vs, SqT.grow g r.cellsOk t, VRs.mono g r.cellsOk f u⟩⟩
theorem snd_enum (c : Ctx T G xa cal k N sc fb W X) {a : E} {x : Expr} {elts : List Expr} {kk : Nat} {q pos tpos : Pos} (gl : glC sc "enumerate" = true) (px : plain x = true) (ha : PE X x (rE G xa cal a W)) : PI X (.Tuple elts kk tpos) (.Call (.Name "enumerate" q) [x] [] pos) (rI G xa cal (.enum a) W) := by
  refine PI.imp (pi_enum (c.gl gl) (c.free _ (by decide)) (pa_cons ha pa_nil (plain_star px _ _)) (by rw [plain_star px]; rfl)) fun σ H R ⟨F, ι, h, ρ, r, en, P⟩ => ?_
  simp only [src] at P
  refine rE_of r en P.bind fun d1 h1 v1 H1 ι1 P1 g1 r1 s1 => ?_
  split at P1
  · rename_i xs e
    rw [c.hK]
    obtain ⟨a, rfl, la⟩ := ls_at r1 s1 e
    obtain ⟨vs, t, _⟩ := la F H1 ι1 h1 (fun _ z => .inl z) Grow.refl r1 held_now
    refine ⟨a, vs, rfl, t, P1 _ H1 ι1 g1 r1 ?_⟩
    intro F' H' ι' h' f g' r' ok i
    obtain ⟨us, t', u'⟩ := la F' H' ι' h' f g' r' ok
    refine ⟨fun d hd => ?_, fun hi => ⟨us, t', by rw [VRs.length u', ← enum_len xs 0]; exact hi⟩⟩
    have hd : (enumL 0 xs)[i]? = some d := hd
    rw [enum_get] at hd
    split at hd
    · rename_i y ey
      cases hd
      obtain ⟨w, e1, rw'⟩ := u'.get ey
      refine ⟨⟨us, w, t', e1⟩, fun z H2 ⟨T, x', ez, hT, eH, fx⟩ => ?_⟩
      subst ez eH
      have e2 := fx us t'
      rw [e1] at e2
      cases e2
      rw [Nat.zero_add]
      exact pair_ok (a := .int (i : Nat)) (x := .int (i : Nat)) r' hT rfl rw'
    · cases hd
  · exact P1.elim
theorem zipOf_cases {x y : D} {l : List D} (e : zipOf x y h = some l) : (∃ xs ys, x = .tup xs ∧ y = .tup ys ∧ l = zipL xs ys) ∨ ∃ xs ys, lsOf x h = some xs ∧ lsOf y h = some ys ∧ l = zipL xs ys := by
  unfold zipOf at e
  split at e
  · cases e; exact .inl ⟨_, _, rfl, rfl, rfl⟩
  · split at e
    · cases e; exact .inr ⟨_, _, by assumption, by assumption, rfl⟩
    · cases e
theorem snd_zip (c : Ctx T G xa cal k N sc fb W X) {a b : E} {x y : Expr} {elts : List Expr} {kk : Nat} {q pos tpos : Pos} (gl : glC sc "zip" = true) (px : plain x = true) (py : plain y = true) (ha : PE X x (rE G xa cal a W)) (hb : PE X y (rE G xa cal b W)) : PI X (.Tuple elts kk tpos) (.Call (.Name "zip" q) [x, y] [] pos) (rI G xa cal (.zip a b) W) := by
  have py' : plainAll [y] = true := by simp [plainAll, py]
  refine PI.imp (RZ.pi_zipA (c.gl gl) (c.free _ (by decide)) (pa_cons ha (pa_cons hb pa_nil (plain_star py _ _)) (plain_star px _ _)) (plain_star px _ _) (plainAll_back py' _ _)) fun σ H R ⟨F, ι, h, ρ, r, en, P⟩ => ?_
  simp only [src] at P
  refine rE_of r en P.bind fun d1 h1 v1 H1 ι1 P1 g1 r1 s1 => ?_
  have P1' : Post ((ev cal b ρ h1).bind _) (fun s h' => ∀ J H' ι', Grow H ι H' ι' → Rel G F ι' H' h' → Walk G F J s H' ι' → R J H') (erx G F xa ι1 H1 W) := P1.imp (fun _ _ z => z) fun _ _ z => z.from g1
  refine rE_of r1 (en.up g1 r.cellsOk) P1'.bind fun d2 h2 v2 H2 ι2 P2 g2 r2 s2 => ?_
  have s1' := s1.up g2 r1.cellsOk
  rw [c.hK]
  have fin : ∀ {xs ys : List D} {J : It}, zipOf d1 d2 h2 = some (zipL xs ys) → Walk G F J ⟨zipL xs ys, heldOf d1 h2 ++ heldOf d2 h2⟩ H2 ι2 → R J H2 := fun {xs ys J} e wk => by
    rw [e] at P2
    exact P2 J H2 ι2 (g1.trans g2) r2 wk
  have lists : ∀ {xs ys : List D}, lsOf d1 h2 = some xs → lsOf d2 h2 = some ys → zipOf d1 d2 h2 = some (zipL xs ys) → ∃ a b us ws, [v1, v2] = [V.ref a, V.ref b] ∧ ((SqL G.K H2 a us ∧ SqL G.K H2 b ws ∧ R (Itz G.K a b) H2) ∨ (SqT G.K H2 a us ∧ SqT G.K H2 b ws ∧ R (RZ.ItzT G.K a b) H2)) := fun {xs ys} e1 e2 e3 => by
    obtain ⟨a, rfl, la⟩ := ls_at r2 s1' e1
    obtain ⟨b, rfl, lb⟩ := ls_at r2 s2 e2
    obtain ⟨us, t, _⟩ := la F H2 ι2 h2 (fun _ z => .inl z) Grow.refl r2 held_now
    obtain ⟨ws, t2, _⟩ := lb F H2 ι2 h2 (fun _ z => .inl z) Grow.refl r2 held_now
    refine ⟨a, b, us, ws, rfl, .inl ⟨t, t2, fin e3 ?_⟩⟩
    intro F' H' ι' h' f g' r' ok i
    have ok : (heldOf d1 h2 ++ heldOf d2 h2).all (fun p => decide (h'[p.1]? = some p.2)) = true := ok
    rw [List.all_append, Bool.and_eq_true] at ok
    obtain ⟨us', t', u'⟩ := la F' H' ι' h' f g' r' ok.1
    obtain ⟨ws', t2', w'⟩ := lb F' H' ι' h' f g' r' ok.2
    refine ⟨fun d hd => ?_, fun hi => ⟨us', ws', t', t2', ?_⟩⟩
    · have hd : (zipL xs ys)[i]? = some d := hd
      rw [zip_get] at hd
      split at hd
      · rename_i y1 y2 ey1 ey2
        cases hd
        obtain ⟨z1, e1', rz1⟩ := u'.get ey1
        obtain ⟨z2, e2', rz2⟩ := w'.get ey2
        refine ⟨⟨us', ws', z1, z2, t', t2', e1', e2'⟩, fun z H3 ⟨T, x', y', ez, hT, eH, fx, fy⟩ => ?_⟩
        subst ez eH
        have q1 := fx us' t'
        have q2 := fy ws' t2'
        rw [e1'] at q1
        rw [e2'] at q2
        cases q1
        cases q2
        exact pair_ok r' hT rz1 rz2
      · cases hd
    · have hi : (zipL xs ys).length ≤ i := hi
      rw [zip_len] at hi
      rw [VRs.length u', VRs.length w']
      omega
  cases e : zipOf d1 d2 h2 with
  | none => rw [e] at P2; exact P2.elim
  | some l =>
    rcases zipOf_cases e with ⟨xs, ys, rfl, rfl, rfl⟩ | ⟨xs, ys, e1, e2, rfl⟩
    · obtain ⟨a, rfl, la⟩ := tup_at r2 s1'
      obtain ⟨b, rfl, lb⟩ := tup_at r2 s2
      obtain ⟨us, t, _⟩ := la F H2 ι2 h2 (fun _ z => .inl z) Grow.refl r2
      obtain ⟨ws, t2, _⟩ := lb F H2 ι2 h2 (fun _ z => .inl z) Grow.refl r2
      refine ⟨a, b, us, ws, rfl, .inr ⟨t, t2, fin e ?_⟩⟩
      intro F' H' ι' h' f g' r' ok i
      obtain ⟨us', t', u'⟩ := la F' H' ι' h' f g' r'
      obtain ⟨ws', t2', w'⟩ := lb F' H' ι' h' f g' r'
      refine ⟨fun d hd => ?_, fun hi => ⟨us', ws', t', t2', ?_⟩⟩
      · have hd : (zipL xs ys)[i]? = some d := hd
        rw [zip_get] at hd
        split at hd
        · rename_i y1 y2 ey1 ey2
          cases hd
          obtain ⟨z1, e1', rz1⟩ := u'.get ey1
          obtain ⟨z2, e2', rz2⟩ := w'.get ey2
          refine ⟨⟨us', ws', z1, z2, t', t2', e1', e2'⟩, fun z H3 ⟨T, x', y', ez, hT, eH, fx, fy⟩ => ?_⟩
          subst ez eH
          have q1 := fx us' t'
          have q2 := fy ws' t2'
          rw [e1'] at q1
          rw [e2'] at q2
          cases q1
          cases q2
          exact pair_ok r' hT rz1 rz2
        · cases hd
      · have hi : (zipL xs ys).length ≤ i := hi
        rw [zip_len] at hi
        rw [VRs.length u', VRs.length w']
        omega
    · exact lists e1 e2 e
/-! slices -/
def rO (G : Ge) (xa : Nat → Addr) (cal : Cal) (es : Es) (W : WX) : TO := fun σ H Q => ∃ F ι h ρ, Rel G F ι H h ∧ EnvR G F ι H ρ σ ∧ Post (evo cal es ρ h) (okg G F ι H fun o H' _ => Q o H') (erx G F xa ι H W)
theorem PO.imp {e : Option Expr} {t t' : TO} (p : PO X e t) (i : ∀ σ H Q, t' σ H Q → t σ H Q) : PO X e t' := ⟨fun pins s σ H Q I q => p.run pins s σ H Q I (i _ _ _ q)⟩
theorem snd_o0 : PO X none (rO G xa cal .nil W) := PO.imp po_none fun σ H Q ⟨F, ι, h, ρ, r, en, P⟩ => P H ι Grow.refl r
theorem snd_o1 {e : E} {es : Es} {x : Expr} (he : PE X x (rE G xa cal e W)) : PO X (some x) (rO G xa cal (.cons e es) W) := PO.imp (po_some he) fun σ H Q ⟨F, ι, h, ρ, r, en, P⟩ => by
  simp only [evo] at P
  refine rE_of r en P.bind fun d h1 v H1 ι1 P1 g1 r1 s1 => ?_
  split at P1
  · exact ⟨_, s1, P1 H1 ι1 g1 r1⟩
  · exact P1.elim
theorem clip_sIx (n : Nat) (i : Int) (d : Nat) : clip n i = HT.sIx n d (some i) := by
  show clip n i = (if i < 0 then (i + (n : Int)).toNat else min i.toNat n)
  unfold clip
  split
  · split <;> omega
  · split <;> omega
theorem cut_V {α : Type} (xs : List α) (lo hi : Option Int) : cut xs lo hi = (xs.drop (HT.sIx xs.length 0 lo)).take (HT.sIx xs.length xs.length hi - HT.sIx xs.length 0 lo) := by
  unfold cut
  cases lo with
  | none => cases hi with
    | none => rfl
    | some j =>
      show (xs.drop 0).take (clip xs.length j - 0) = _
      rw [clip_sIx _ j xs.length]; rfl
  | some i => cases hi with
    | none =>
      show (xs.drop (clip xs.length i)).take (xs.length - clip xs.length i) = _
      rw [clip_sIx _ i 0]; rfl
    | some j =>
      show (xs.drop (clip xs.length i)).take (clip xs.length j - clip xs.length i) = _
      rw [clip_sIx _ i 0, clip_sIx _ j xs.length]
theorem VRs.cut {ds : List D} {vs : List V} (r : VRs G F ι H ds vs) (lo hi : Option Int) : VRs G F ι H (PL.cut ds lo hi) (cutV vs lo hi) := by
  rw [cut_V]
  unfold cutV
  rw [VRs.length r]
  exact (r.drop _).take _
def rSl (G : Ge) (th : Bool) : V → Option Int → Option Int → Hp → VK → Prop := fun x lo hi H Q => ∃ F ι h a E, Rel G F ι H h ∧ VR G F ι H a x ∧ Post (slice th a lo hi h) (okp G F ι H Q) E
theorem sl_ok (fa : Nat → Addr) (nf nx : Nat) (th : Bool) : SlR X (rSl ⟨X.K, fa, nf, nx⟩ th) := by
  intro pins s σ H x v vl vu lo hi sl Q I rx hs pl pu ⟨F, ι, h, a, E, r, ra, P⟩
  unfold slice at P
  split at P
  · rename_i xs
    obtain ⟨p, vs, rfl, t, u⟩ := ra
    refine sl_tupA pins s σ H _ v vl vu lo hi sl Q I rx hs pl pu ⟨p, vs, rfl, t, fun w => ?_, fun _ q n => tup_ok r (u.cut lo hi) P n⟩
    have e : PL.cut xs lo hi = xs := by
      rw [cut_V]
      rw [VRs.length u] at w
      rw [w.1, w.2, List.drop_zero, Nat.sub_zero, List.take_length]
    rw [e] at P
    exact same_ok r P ⟨p, vs, rfl, t, u⟩
  · rename_i z
    split at P
    · rename_i hz
      refine sl_str pins s σ H _ v vl vu lo hi sl Q I rx hs pl pu ⟨z, ra, by rw [line_eq]; exact hz, ?_⟩
      have e : (⟨(PL.cut z.cps.toList lo hi).toArray⟩ : Str) = cutS z lo hi := by
        rw [cut_V]; rfl
      rw [e] at P
      exact same_ok r P rfl
    · exact P.elim
  · split at P
    · rename_i xs e
      obtain ⟨p, vs, rfl, t, u⟩ := VR.ls r ra e
      exact sl_list pins s σ H _ v vl vu lo hi sl Q I rx hs pl pu ⟨p, vs, rfl, t, fun q n => new_ok r (u.cut lo hi) P n⟩
    · exact P.elim
theorem snd_sl (c : Ctx T G xa cal k N sc fb W X) {th : Bool} {a : E} {lo hi : Es} {x : Expr} {l u : Option Expr} {p2 pos : Pos} (ha : PE X x (rE G xa cal a W)) (hl : PO X l (rO G xa cal lo W)) (hu : PO X u (rO G xa cal hi W)) : PE X (.Subscript x (.Slice l u none p2) pos) (rE G xa cal (.sl th a lo hi) W) :=
  PE.imp (pe_slice (sl_ok G.fa G.nf G.nx th) ha hl hu) fun σ H Q ⟨F, ι, h, ρ, r, en, P⟩ => by
    rw [c.eqK]
    simp only [ev] at P
    refine rE_of r en P.bind fun d1 h1 v1 H1 ι1 P1 g1 r1 s1 => ?_
    refine ⟨F, ι1, h1, ρ, r1, en.up g1 r.cellsOk, (Post.from P1 g1).bind.imp (fun o h2 P2 H2 ι2 g2 r2 => ?_) fun _ _ z => z⟩
    refine ⟨F, ι2, h2, ρ, r2, (en.up g1 r.cellsOk).up g2 r1.cellsOk, (Post.from P2 g2).bind.imp (fun o2 h3 P3 H3 ι3 g3 r3 => ?_) fun _ _ z => z⟩
    exact ⟨F, ι3, h3, d1, _, r3, (s1.up g2 r1.cellsOk).up g3 r2.cellsOk, Post.from P3 g3⟩
theorem snd_rev (c : Ctx T G xa cal k N sc fb W X) {th : Bool} {a : E} {x : Expr} {j : Nat} {p1 p2 p3 pos : Pos} (ha : PE X x (rE G xa cal a W)) : PE X (.Subscript x (.Slice none none (some (.UnaryOp .USub (.Constant (.int 1) j p1) p2)) p3) pos) (rE G xa cal (.rev th a) W) :=
  PE.imp (pe_revL ha) fun σ H Q ⟨F, ι, h, ρ, r, en, P⟩ => by
    rw [c.hK]
    simp only [ev] at P
    refine rE_of r en P.bind fun d1 h1 v1 H1 ι1 P1 g1 r1 s1 => ?_
    unfold revd at P1
    split at P1
    · rename_i xs e
      obtain ⟨p, vs, rfl, t, u⟩ := VR.ls r1 s1 e
      exact ⟨p, vs, rfl, t, fun q n => new_ok r1 u.reverse (Post.from P1 g1) n⟩
    · exact P1.elim
end
end PL
end
section
set_option Elab.async false
set_option linter.all false
set_option maxRecDepth 100000
set_option maxHeartbeats 1000000
/-! PLS13: all expressions together. -/
namespace PL
open PySem PySem.Spec PyProof.Rows L2
section
variable {T : Tab} {G : Ge} {xa : Nat → Addr} {cal : Cal} {k : Nat} {N : List Str} {sc : Scope} {fb : Str → Bool} {W : WX} {X : Cx} {F : Addr → Prop} {ι : List Addr} {H : Hp} {h : Hpp} {ρ : List (Option D)} {σ : L2.St} {Q : VK}
theorem chain_bl {o1 o2 : Cop} {a b cc : E} {d : D} {h' : Hpp} (e : ev cal (.chain o1 o2 a b cc) ρ h = .ok d h') : ∃ b, d = .bl b := by
  simp only [ev] at e
  cases e1 : ev cal a ρ h with
  | ok d1 h1 =>
    rw [e1, R.bind_ok] at e
    cases e2 : ev cal b ρ h1 with
    | ok d2 h2 =>
      rw [e2, R.bind_ok] at e
      cases e3 : cop o1 d1 d2 h2 with
      | some k =>
        rw [e3, opt_some, R.bind_ok] at e
        cases k with
        | false => cases e; exact ⟨_, rfl⟩
        | true =>
          simp only at e
          cases e4 : ev cal cc ρ h2 with
          | ok d3 h3 =>
            rw [e4, R.bind_ok] at e
            cases e5 : cop o2 d2 d3 h3 with
            | some k => rw [e5] at e; cases e; exact ⟨_, rfl⟩
            | none => rw [e5] at e; cases e
          | er c h2 => rw [e4] at e; cases e
          | no => rw [e4] at e; cases e
      | none => rw [e3] at e; cases e
    | er c h2 => rw [e2] at e; cases e
    | no => rw [e2] at e; cases e
  | er c h1 => rw [e1] at e; cases e
  | no => rw [e1] at e; cases e
theorem chain_red {o1 o2 : Cop} {a b cc : E} (r : Rel G F ι H h) (en : EnvR G F ι H ρ σ) (P : Post (ev cal (.chain o1 o2 a b cc) ρ h) (okp G F ι H Q) (erx G F xa ι H W)) : tChain (rCop G o1) (rCop G o2) (rE G xa cal a W) (rE G xa cal b W) (rE G xa cal cc W) σ H Q := by
  simp only [ev] at P
  refine rE_of r en P.bind fun d1 h1 v1 H1 ι1 P1 g1 r1 s1 => ?_
  refine rE_of r1 (en.up g1 r.cellsOk) (Post.from P1 g1).bind fun d2 h2 v2 H2 ι2 P2 g2 r2 s2 => ?_
  obtain ⟨b1, e1, P3⟩ := Post.opt P2.bind
  refine ⟨F, ι2, h2, d1, d2, b1, r2, s1.up g2 r1.cellsOk, s2, e1, b1, rfl, ?_⟩
  cases b1 with
  | false => exact same_ok r2 (Post.from P3 g2) rfl
  | true =>
    refine rE_of r2 ((en.up g1 r.cellsOk).up g2 r1.cellsOk) (Post.from P3 g2).bind fun d3 h3 v3 H3 ι3 P4 g3 r3 s3 => ?_
    obtain ⟨b2, e2, P5⟩ := Post.opt P4.bind
    exact ⟨F, ι3, h3, d2, d3, b2, r3, s2.up g3 r2.cellsOk, s3, e2, same_ok r3 (Post.from P5 g3) rfl⟩
theorem snd_chainT (c : Ctx T G xa cal k N sc fb W X) {o1 o2 : Cop} {a b cc : E} {x y z : Expr} {pos : Pos} (pz : plain z = true) (ha : PE X x (rE G xa cal a W)) (hb : PE X y (rE G xa cal b W)) (hc : PE X z (rE G xa cal cc W)) : PT X (.Compare x [pyCop o1, pyCop o2] [y, z] pos) (rT G xa cal (.chain o1 o2 a b cc) W) :=
  PT.imp (pt_chain (op_cop G.fa G.nf G.nx c.room.units o1) (op_cop G.fa G.nf G.nx c.room.units o2) ha hb hc (plain_behind pz _)) fun σ H Q ⟨F, ι, h, ρ, r, en, P⟩ => by
    rw [c.eqK]
    exact chain_red r en (tru_bl_of (e := .chain o1 o2 a b cc) _ P fun d h' e => chain_bl e)
mutual
theorem sndE : ∀ (e : E) (sc : Scope) (fb : Str → Bool) (p : Expr), chkE T N e sc fb p = true → ∀ (W : WX) (X : Cx), Ctx T G xa cal k N sc fb W X → PE X p (rE G xa cal e W) ∧ PT X p (rT G xa cal e W)
  | .cst d, sc, fb, p, ok, W, X, c => by
    rw [chkE] at ok
    have he := snd_cst c ok
    refine ⟨he, snd_plainT c ?_ he⟩
    unfold chkCst at ok
    split at ok
    · split at ok
      · rename_i e
        obtain ⟨pos, rfl⟩ := vName_eq e
        rfl
      · cases ok
    · split at ok
      · rename_i e
        rw [asConst_eq e]; rfl
      · cases ok
  | .var i, sc, fb, p, ok, W, X, c => by
    rw [chkE] at ok
    split at ok
    · rename_i x e
      obtain ⟨pos, rfl⟩ := vName_eq e
      simp only [Bool.and_eq_true] at ok
      have he : PE X (.Name x pos) (rE G xa cal (.var i) W) := snd_var c (of_decide_eq_true ok.1.1) ok.1.2 ok.2
      exact ⟨he, snd_plainT c rfl he⟩
    · cases ok
  | .glb x d, sc, fb, p, ok, W, X, c => by
    rw [chkE] at ok
    split at ok
    · rename_i y e
      obtain ⟨pos, rfl⟩ := vName_eq e
      simp only [Bool.and_eq_true] at ok
      obtain ⟨⟨⟨o1, o2⟩, o3⟩, o4⟩ := ok
      cases (of_decide_eq_true o1)
      have he : PE X (.Name x pos) (rE G xa cal (.glb x d) W) := snd_glb c (of_decide_eq_true o2) o3 o4
      exact ⟨he, snd_plainT c rfl he⟩
    · cases ok
  | .tup es, sc, fb, p, ok, W, X, c => by
    rw [chkE] at ok
    split at ok
    · rename_i ps e
      obtain ⟨⟨j, pos, rfl⟩, hl⟩ := vTup_eq e
      have he := snd_tup (j := j) (pos := pos) hl ok (sndEs es sc fb ps ok W X c).1
      exact ⟨he, snd_plainT c rfl he⟩
    · cases ok
  | .lst th es, sc, fb, p, ok, W, X, c => by
    rw [chkE] at ok
    split at ok
    · rename_i ps e
      obtain ⟨⟨pos, rfl⟩, hl⟩ := vLst_eq e
      have he := snd_lst (th := th) (pos := pos) hl ok (sndEs es sc fb ps ok W X c).1
      exact ⟨he, snd_plainT c rfl he⟩
    · cases ok
  | .bin th op a b, sc, fb, p, ok, W, X, c => by
    rw [chkE] at ok
    split at ok
    · rename_i q e
      obtain ⟨pos, rfl⟩ := vBin_eq e
      simp only [Bool.and_eq_true] at ok
      have he := snd_bin (op := op) (th := th) (pos := pos) c (sndE a sc fb q.1 ok.1 W X c).1 (sndE b sc fb q.2 ok.2 W X c).1
      exact ⟨he, snd_plainT c rfl he⟩
    · cases ok
  | .neg a, sc, fb, p, ok, W, X, c => by
    rw [chkE] at ok
    split at ok
    · rename_i x e
      obtain ⟨pos, rfl⟩ := vUn_eq e
      have he := snd_neg (pos := pos) (sndE a sc fb x ok W X c).1
      exact ⟨he, snd_plainT c rfl he⟩
    · cases ok
  | .not a, sc, fb, p, ok, W, X, c => by
    rw [chkE] at ok
    split at ok
    · rename_i x e
      obtain ⟨pos, rfl⟩ := vUn_eq e
      have ih := sndE a sc fb x ok W X c
      exact ⟨snd_not c ih.1, snd_notT ih.2⟩
    · cases ok
  | .and a b, sc, fb, p, ok, W, X, c => by
    rw [chkE] at ok
    split at ok
    · rename_i q e
      obtain ⟨y, r, pos, rfl, e2⟩ := vBool_eq e
      simp only [Bool.and_eq_true] at ok
      have ih1 := sndE a sc fb q.1 ok.1 W X c
      have ih2 := sndE b sc fb q.2 ok.2 W X c
      rw [e2] at ih2
      exact ⟨snd_and c ih1.1 ih2.1, snd_andT ih1.2 ih2.2⟩
    · cases ok
  | .or a b, sc, fb, p, ok, W, X, c => by
    rw [chkE] at ok
    split at ok
    · rename_i q e
      obtain ⟨y, r, pos, rfl, e2⟩ := vBool_eq e
      simp only [Bool.and_eq_true] at ok
      have ih1 := sndE a sc fb q.1 ok.1 W X c
      have ih2 := sndE b sc fb q.2 ok.2 W X c
      rw [e2] at ih2
      exact ⟨snd_or c ih1.1 ih2.1, snd_orT ih1.2 ih2.2⟩
    · cases ok
  | .cmp op a b, sc, fb, p, ok, W, X, c => by
    rw [chkE] at ok
    split at ok
    · rename_i q e
      obtain ⟨⟨pos, rfl⟩, pl⟩ := vCmp_eq e
      simp only [Bool.and_eq_true] at ok
      have ih1 := sndE a sc fb q.1 ok.1 W X c
      have ih2 := sndE b sc fb q.2 ok.2 W X c
      exact ⟨snd_cmp c pl ih1.1 ih2.1, snd_cmpT c pl ih1.1 ih2.1⟩
    · cases ok
  | .isN ng a, sc, fb, p, ok, W, X, c => by
    rw [chkE] at ok
    split at ok
    · rename_i x e
      obtain ⟨j, q, pos, rfl⟩ := vIsN_eq e
      have ih := sndE a sc fb x ok W X c
      exact ⟨snd_isN ih.1, snd_isNT ih.1⟩
    · cases ok
  | .inn _ _ _, sc, fb, p, ok, W, X, c => by rw [chkE] at ok; cases ok
  | .chain o1 o2 a b cc, sc, fb, p, ok, W, X, c => by
    rw [chkE] at ok
    split at ok
    · rename_i q e
      obtain ⟨⟨pos, rfl⟩, pl⟩ := vChain_eq e
      simp only [Bool.and_eq_true] at ok
      have ih1 := sndE a sc fb q.1 ok.1.1 W X c
      have ih2 := sndE b sc fb q.2.1 ok.1.2 W X c
      have ih3 := sndE cc sc fb q.2.2 ok.2 W X c
      exact ⟨snd_chain c pl ih1.1 ih2.1 ih3.1, snd_chainT c pl ih1.1 ih2.1 ih3.1⟩
    · cases ok
  | .ite cc a b, sc, fb, p, ok, W, X, c => by
    rw [chkE] at ok
    split at ok
    · rename_i q e
      obtain ⟨pos, rfl⟩ := vIf_eq e
      simp only [Bool.and_eq_true] at ok
      have ih1 := sndE cc sc fb q.1 ok.1.1 W X c
      have ih2 := sndE a sc fb q.2.1 ok.1.2 W X c
      have ih3 := sndE b sc fb q.2.2 ok.2 W X c
      exact ⟨snd_ite ih1.2 ih2.1 ih3.1, snd_iteT ih1.2 ih2.2 ih3.2⟩
    · cases ok
  | .call f es, sc, fb, p, ok, W, X, c => by
    rw [chkE] at ok
    split at ok
    · rename_i q e
      obtain ⟨qq, pos, rfl⟩ := vCall_eq e
      simp only [Bool.and_eq_true] at ok
      obtain ⟨⟨⟨o1, o2⟩, o3⟩, o4⟩ := ok
      have he : PE X (.Call (.Name q.1 qq) q.2 [] pos) (rE G xa cal (.call f es) W) := snd_call c (of_decide_eq_true o1) o2 o3 o4 (sndEs es sc fb q.2 o4 W X c).1
      exact ⟨he, snd_plainT c rfl he⟩
    · cases ok
  | .callv i es, sc, fb, p, ok, W, X, c => by
    rw [chkE] at ok
    split at ok
    · rename_i q e
      obtain ⟨qq, pos, rfl⟩ := vCall_eq e
      simp only [Bool.and_eq_true, Bool.not_eq_true'] at ok
      obtain ⟨⟨⟨⟨o1, o2⟩, o3⟩, o5⟩, o4⟩ := ok
      have he : PE X (.Call (.Name q.1 qq) q.2 [] pos) (rE G xa cal (.callv i es) W) := snd_callv c (of_decide_eq_true o1) o2 o3 o5 o4 (sndEs es sc fb q.2 o4 W X c).1
      exact ⟨he, snd_plainT c rfl he⟩
    · cases ok
  | .bi b th es, sc, fb, p, ok, W, X, c => by
    rw [chkE] at ok
    split at ok
    · rename_i q e
      obtain ⟨qq, pos, rfl⟩ := vCall_eq e
      simp only [Bool.and_eq_true, Bool.not_eq_true'] at ok
      obtain ⟨⟨⟨o1, o2⟩, o3⟩, o4⟩ := ok
      obtain ⟨x, ps⟩ := q
      obtain ⟨o2, o5⟩ := glN_is o2
      simp only at o2
      subst o2
      have he : PE X (.Call (.Name (biName b) qq) ps [] pos) (rE G xa cal (.bi b th es) W) := snd_bi c o1 o5 o3 o4 (sndEs es sc fb ps o4 W X c).1
      exact ⟨he, snd_plainT c rfl he⟩
    · cases ok
  | .conv _ _ _, sc, fb, p, ok, W, X, c => by rw [chkE] at ok; cases ok
  | .isi a ts, sc, fb, p, ok, W, X, c => by
    rw [chkE] at ok
    split at ok
    · rename_i q e
      obtain ⟨qq, pos, rfl⟩ := vCall_eq e
      obtain ⟨f, ps⟩ := q
      simp only at ok
      split at ok
      · rename_i x y
        simp only [Bool.and_eq_true] at ok
        obtain ⟨⟨⟨⟨o1, o2⟩, o3⟩, o4⟩, o5⟩ := ok
        obtain ⟨rfl, o6⟩ := glN_is o1
        have he : PE X (.Call (.Name "isinstance" qq) [x, y] [] pos) (rE G xa cal (.isi a ts) W) := snd_isi c o6 o2 o3 (sndE a sc fb x o4 W X c).1 o5
        exact ⟨he, snd_plainT c rfl he⟩
      · cases ok
    · cases ok
  | .mth m o es, sc, fb, p, ok, W, X, c => by
    rw [chkE] at ok
    split at ok
    · rename_i q e
      obtain ⟨⟨apos, cpos, rfl, hline⟩, hb, hl⟩ := vMeth_eq e
      obtain ⟨qo, x, ps⟩ := q
      simp only [Bool.and_eq_true] at ok
      obtain ⟨⟨⟨o1, o2⟩, o3⟩, o4⟩ := ok
      cases (of_decide_eq_true o2)
      have he : PE X (.Call (.Attribute qo (mtName m) apos) ps [] cpos) (rE G xa cal (.mth m o es) W) := snd_mth c o1 hb hline hl (sndE o sc fb qo o3 W X c).1 o4 (sndEs es sc fb ps o4 W X c).1
      exact ⟨he, snd_plainT c rfl he⟩
    · cases ok
  | .idx a b, sc, fb, p, ok, W, X, c => by
    rw [chkE] at ok
    split at ok
    · rename_i q e
      obtain ⟨⟨pos, rfl⟩, pl⟩ := vSub_eq e
      simp only [Bool.and_eq_true] at ok
      have he := snd_idx (pos := pos) c pl (sndE a sc fb q.1 ok.1 W X c).1 (sndE b sc fb q.2 ok.2 W X c).1
      exact ⟨he, snd_plainT c rfl he⟩
    · cases ok
  | .sl th a lo hi, sc, fb, p, ok, W, X, c => by
    rw [chkE] at ok
    split at ok
    · rename_i q e
      obtain ⟨p2, pos, rfl⟩ := vSl_eq e
      simp only [Bool.and_eq_true] at ok
      have he := snd_sl (th := th) (pos := pos) (p2 := p2) c (sndE a sc fb q.1 ok.1.1 W X c).1 (sndO lo sc fb q.2.1 ok.1.2 W X c) (sndO hi sc fb q.2.2 ok.2 W X c)
      exact ⟨he, snd_plainT c rfl he⟩
    · cases ok
  | .rev th a, sc, fb, p, ok, W, X, c => by
    rw [chkE] at ok
    split at ok
    · rename_i x e
      obtain ⟨j, p1, p2, p3, pos, rfl⟩ := vRev_eq e
      have he := snd_rev (th := th) (j := j) (p1 := p1) (p2 := p2) (p3 := p3) (pos := pos) c (sndE a sc fb x ok W X c).1
      exact ⟨he, snd_plainT c rfl he⟩
    · cases ok
  | .comp th elt tg it cs own, sc, fb, p, ok, W, X, c => by
    rw [chkE] at ok
    split at ok
    · rename_i q e
      obtain ⟨⟨pos, rfl⟩, pl, hl⟩ := vComp_eq e
      simp only [Bool.and_eq_true] at ok
      obtain ⟨⟨⟨⟨⟨o1, o2⟩, o3⟩, o4⟩, o5⟩, o6⟩ := ok
      have he := snd_comp (th := th) (pos := pos) c pl o1 o2 (sndI it sc fb q.tg q.it o3 W X c)
        (fun X' c' => snd_tg c' tg q.tg o4)
        (fun X' c' => (sndEs cs (relS q.scope sc) (fbOf q.scope) q.ifs o5 _ X' c').2 hl)
        (fun X' c' => (sndE elt (relS q.scope sc) (fbOf q.scope) q.elt o6 _ X' c').1)
      exact ⟨he, snd_plainT c rfl he⟩
    · cases ok
  | .comp2 _ _ _ _ _ _ _ _ _, sc, fb, p, ok, W, X, c => by rw [chkE] at ok; cases ok
  | .dic _ _, sc, fb, p, ok, W, X, c => by rw [chkE] at ok; cases ok
theorem sndEs : ∀ (es : Es) (sc : Scope) (fb : Str → Bool) (ps : List Expr), chkEs T N es sc fb ps = true → ∀ (W : WX) (X : Cx), Ctx T G xa cal k N sc fb W X → PA X ps (rA G xa cal es W) ∧ (ps.length ≤ 1 → PTs X ps (rTs G xa cal es W))
  | .nil, sc, fb, ps, ok, W, X, c => by
    rw [chkEs] at ok
    cases ps with
    | nil => exact ⟨snd_nil, fun _ => snd_ts0⟩
    | cons _ _ => cases ok
  | .cons e es, sc, fb, ps, ok, W, X, c => by
    cases ps with
    | nil => rw [chkEs] at ok; cases ok
    | cons p ps =>
      simp only [chkEs, Bool.and_eq_true] at ok
      have ih1 := sndE e sc fb p ok.1.2 W X c
      have ih2 := sndEs es sc fb ps ok.2 W X c
      refine ⟨snd_cons ok.1.1 ih1.1 ih2.1, fun hl => ?_⟩
      have hps : ps = [] := by
        cases ps with
        | nil => rfl
        | cons _ _ => simp at hl
      subst hps
      cases es with
      | nil => exact snd_ts1 ih1.2
      | cons _ _ => exact absurd ok.2 (by simp [chkEs])
theorem sndO : ∀ (es : Es) (sc : Scope) (fb : Str → Bool) (p : Option Expr), chkO T N es sc fb p = true → ∀ (W : WX) (X : Cx), Ctx T G xa cal k N sc fb W X → PO X p (rO G xa cal es W)
  | .nil, sc, fb, p, ok, W, X, c => by
    cases p with
    | none => exact snd_o0
    | some _ => simp [chkO] at ok
  | .cons e es, sc, fb, p, ok, W, X, c => by
    cases p with
    | none => simp [chkO] at ok
    | some x =>
      simp only [chkO, Bool.and_eq_true] at ok
      exact snd_o1 (sndE e sc fb x ok.1 W X c).1
theorem sndI : ∀ (it : PL.Itr) (sc : Scope) (fb : Str → Bool) (t p : Expr), chkI T N it sc fb t p = true → ∀ (W : WX) (X : Cx), Ctx T G xa cal k N sc fb W X → PI X t p (rI G xa cal it W)
  | .of e, sc, fb, t, p, ok, W, X, c => by
    rw [chkI] at ok
    exact snd_of c (sndE e sc fb p ok W X c).1
  | .range1 a, sc, fb, t, p, ok, W, X, c => by
    rw [chkI] at ok
    split at ok
    · rename_i q e
      obtain ⟨qq, pos, rfl⟩ := vCall_eq e
      obtain ⟨f, ps⟩ := q
      simp only at ok
      split at ok
      · simp only [Bool.and_eq_true] at ok
        obtain ⟨rfl, o6⟩ := glN_is ok.1.1
        exact snd_range1 c o6 ok.1.2 (sndE a sc fb _ ok.2 W X c).1
      · cases ok
    · cases ok
  | .range2 a b, sc, fb, t, p, ok, W, X, c => by
    rw [chkI] at ok
    split at ok
    · rename_i q e
      obtain ⟨qq, pos, rfl⟩ := vCall_eq e
      obtain ⟨f, ps⟩ := q
      simp only at ok
      split at ok
      · simp only [Bool.and_eq_true] at ok
        obtain ⟨⟨⟨⟨o1, o2⟩, o3⟩, o4⟩, o5⟩ := ok
        obtain ⟨rfl, o6⟩ := glN_is o1
        exact snd_range2 c o6 o2 o3 (sndE a sc fb _ o4 W X c).1 (sndE b sc fb _ o5 W X c).1
      · cases ok
    · cases ok
  | .range3 _ _ _, sc, fb, t, p, ok, W, X, c => by rw [chkI] at ok; cases ok
  | .enum e, sc, fb, t, p, ok, W, X, c => by
    rw [chkI] at ok
    split at ok
    · rename_i q eq
      obtain ⟨qq, pos, rfl⟩ := vCall_eq eq
      obtain ⟨f, ps⟩ := q
      simp only at ok
      split at ok
      · simp only [Bool.and_eq_true] at ok
        obtain ⟨⟨⟨o1, o2⟩, o3⟩, o4⟩ := ok
        obtain ⟨rfl, o6⟩ := glN_is o1
        obtain ⟨ts, et⟩ := Option.isSome_iff_exists.mp o4
        obtain ⟨⟨j, tp, rfl⟩, _⟩ := vTup_eq et
        exact snd_enum c o6 o2 (sndE e sc fb _ o3 W X c).1
      · cases ok
    · cases ok
  | .zip a b, sc, fb, t, p, ok, W, X, c => by
    rw [chkI] at ok
    split at ok
    · rename_i q eq
      obtain ⟨qq, pos, rfl⟩ := vCall_eq eq
      obtain ⟨f, ps⟩ := q
      simp only at ok
      split at ok
      · simp only [Bool.and_eq_true] at ok
        obtain ⟨⟨⟨⟨⟨o1, o2⟩, o3⟩, o4⟩, o5⟩, o7⟩ := ok
        obtain ⟨rfl, o6⟩ := glN_is o1
        obtain ⟨ts, et⟩ := Option.isSome_iff_exists.mp o7
        obtain ⟨⟨j, tp, rfl⟩, _⟩ := vTup_eq et
        exact snd_zip c o6 o2 o3 (sndE a sc fb _ o4 W X c).1 (sndE b sc fb _ o5 W X c).1
      · cases ok
    · cases ok
end
end
end PL
end
section
set_option Elab.async false
set_option linter.all false
set_option maxRecDepth 100000
set_option maxHeartbeats 1000000
/-! PLS14: statements, case by case. -/
namespace PL
open PySem PySem.Spec PyProof.Rows L2
def PostO (G : Ge) (F : Addr → Prop) (xa : Nat → Addr) (ι : List Addr) (H : Hp) (W : WX) (D : Ends) (o : O) : Prop := match o with
  | .nx ρ' h' => ∀ σ' H' ι', Grow H ι H' ι' → Rel G F ι' H' h' → EnvR G F ι' H' ρ' σ' → D.nx σ' H'
  | .rt d h' => okp G F ι H D.rt d h'
  | .bk ρ' h' => ∀ σ' H' ι', Grow H ι H' ι' → Rel G F ι' H' h' → EnvR G F ι' H' ρ' σ' → D.bk σ' H'
  | .ct ρ' h' => ∀ σ' H' ι', Grow H ι H' ι' → Rel G F ι' H' h' → EnvR G F ι' H' ρ' σ' → D.ct σ' H'
  | .er c _ h' => erx G F xa ι H W c h'
  | .no => False
def rSt (G : Ge) (xa : Nat → Addr) (cal : Cal) (s : S) (W : WX) : TS := fun D σ H => ∃ F ι h ρ, Rel G F ι H h ∧ EnvR G F ι H ρ σ ∧ PostO G F xa ι H W D (ex cal s ρ h)
def rSs (G : Ge) (xa : Nat → Addr) (cal : Cal) (s : Ss) (W : WX) : TS := fun D σ H => ∃ F ι h ρ, Rel G F ι H h ∧ EnvR G F ι H ρ σ ∧ PostO G F xa ι H W D (exs cal s ρ h)
structure CtxS (T : Tab) (G : Ge) (xa : Nat → Addr) (cal : Cal) (k : Nat) (N : List Str) (sc : Scope) (fb : Str → Bool) (W : WX) (X : Cx) : Prop where
  c : Ctx T G xa cal k N sc fb W X
  own : PassesOwn (model X.prog X.w) X.A X.env X.xe
  stk : X.stack = X.env :: X.outer
  fr : X.env.frame = some X.env.locals
  kind : sc.kind = .function
section
variable {T : Tab} {G : Ge} {xa : Nat → Addr} {cal : Cal} {k : Nat} {N : List Str} {sc : Scope} {fb : Str → Bool} {W : WX} {X : Cx} {F : Addr → Prop} {ι : List Addr} {H : Hp} {h : Hpp} {ρ : List (Option D)} {σ : L2.St} {Q : VK} {D : Ends}
theorem PostO.from {o : O} {ι1 : List Addr} {H1 : Hp} (p : PostO G F xa ι H W D o) (g : Grow H ι H1 ι1) : PostO G F xa ι1 H1 W D o := by
  cases o with
  | nx ρ' h' => exact fun σ' H' ι' g' r' e' => p σ' H' ι' (g.trans g') r' e'
  | rt d h' => exact okp.from g p
  | bk ρ' h' => exact fun σ' H' ι' g' r' e' => p σ' H' ι' (g.trans g') r' e'
  | ct ρ' h' => exact fun σ' H' ι' g' r' e' => p σ' H' ι' (g.trans g') r' e'
  | er c ρ' h' => exact erx.from p g
  | no => exact p
theorem PostO.imp {D' : Ends} {o : O} (p : PostO G F xa ι H W D o) (h1 : ∀ ρ' h', o = .nx ρ' h' → PostO G F xa ι H W D (.nx ρ' h') → PostO G F xa ι H W D' (.nx ρ' h')) (h2 : D'.rt = D.rt) (h3 : ∀ ρ' h', o = .bk ρ' h' → PostO G F xa ι H W D (.bk ρ' h') → PostO G F xa ι H W D' (.bk ρ' h'))
    (h4 : ∀ ρ' h', o = .ct ρ' h' → PostO G F xa ι H W D (.ct ρ' h') → PostO G F xa ι H W D' (.ct ρ' h')) : PostO G F xa ι H W D' o := by
  cases o with
  | nx ρ' h' => exact h1 ρ' h' rfl p
  | rt d h' =>
    show okp G F ι H D'.rt d h'
    rw [h2]; exact p
  | bk ρ' h' => exact h3 ρ' h' rfl p
  | ct ρ' h' => exact h4 ρ' h' rfl p
  | er c ρ' h' => exact p
  | no => exact p
theorem PostO.thn {r : R PL.D} {f : PL.D → Hpp → O} {E : Ends} (p : PostO G F xa ι H W E (andThen r ρ f)) : Post r (fun d h => PostO G F xa ι H W E (f d h)) (erx G F xa ι H W) := by
  cases r with
  | ok d h => exact p
  | er c h => exact p
  | no => exact p
theorem Post.self {α : Type} {r : R α} {O : α → Hpp → Prop} {E : Nat → Hpp → Prop} (h1 : ∀ a h, r = .ok a h → O a h) (h2 : ∀ c h, r = .er c h → E c h) (h3 : r = .no → False) : Post r O E := by
  cases r with
  | ok a h => exact h1 a h rfl
  | er c h => exact h2 c h rfl
  | no => exact h3 rfl
/-! suites -/
theorem snd_snil : PSs X [] (rSs G xa cal .nil W) := PSs.imp pss_nil fun D σ H ⟨F, ι, h, ρ, r, en, P⟩ => P σ H ι Grow.refl r en
theorem snd_scons {s : S} {ss : Ss} {st : Stmt} {sts : List Stmt} (h1 : PS X st (rSt G xa cal s W)) (h2 : PSs X sts (rSs G xa cal ss W)) : PSs X (st :: sts) (rSs G xa cal (.cons s ss) W) :=
  PSs.imp (pss_cons h1 h2) fun D σ H ⟨F, ι, h, ρ, r, en, P⟩ => by
    refine ⟨F, ι, h, ρ, r, en, ?_⟩
    simp only [exs] at P
    cases e : ex cal s ρ h with
    | nx ρ' h' =>
      rw [e] at P
      exact fun σ' H' ι' g' r' e' => ⟨F, ι', h', ρ', r', e', PostO.from (show PostO G F xa ι H W D (exs cal ss ρ' h') from P) g'⟩
    | rt d h' => rw [e] at P; exact P
    | bk ρ' h' => rw [e] at P; exact P
    | ct ρ' h' => rw [e] at P; exact P
    | er c ρ' h' => rw [e] at P; exact P
    | no => rw [e] at P; exact P
/-! one statement -/
theorem snd_exp {e : E} {p : Expr} {pos : Pos} (he : PE X p (rE G xa cal e W)) (hs : swapsWith p none pos.line X.env = pure false) : PS X (.Expr p pos) (rSt G xa cal (.exp e) W) :=
  PS.imp (ps_expr he hs) fun D σ H ⟨F, ι, h, ρ, r, en, P⟩ => by
    simp only [ex] at P
    exact rE_of r en P.thn fun d h1 v H1 ι1 P1 g1 r1 s1 => P1 σ H1 ι1 g1 r1 (en.up g1 r.cellsOk)
theorem snd_ret {e : E} {p : Expr} {pos : Pos} (he : PE X p (rE G xa cal e W)) : PS X (.Return (some p) pos) (rSt G xa cal (.ret e) W) :=
  PS.imp (ps_ret he) fun D σ H ⟨F, ι, h, ρ, r, en, P⟩ => by
    simp only [ex] at P
    exact rE_of r en P.thn fun d h1 v H1 ι1 P1 g1 r1 s1 => P1 v H1 ι1 g1 r1 s1
theorem snd_retn {pos : Pos} : PS X (.Return none pos) (rSt G xa cal .retn W) :=
  PS.imp ps_retN fun D σ H ⟨F, ι, h, ρ, r, en, P⟩ => (show okp G F ι H D.rt .non h from P) .non H ι Grow.refl r rfl
theorem snd_pass {pos : Pos} : PS X (.Pass pos) (rSt G xa cal .pass W) := PS.imp ps_pass fun D σ H ⟨F, ι, h, ρ, r, en, P⟩ => P σ H ι Grow.refl r en
theorem snd_brk {pos : Pos} : PS X (.Break pos) (rSt G xa cal .brk W) := PS.imp ps_break fun D σ H ⟨F, ι, h, ρ, r, en, P⟩ => P σ H ι Grow.refl r en
theorem snd_cont {pos : Pos} : PS X (.Continue pos) (rSt G xa cal .cont W) := PS.imp ps_continue fun D σ H ⟨F, ι, h, ρ, r, en, P⟩ => P σ H ι Grow.refl r en
theorem snd_iff {e : E} {a b : Ss} {p : Expr} {sa sb : List Stmt} {pos : Pos} (hc : PT X p (rT G xa cal e W)) (ha : PSs X sa (rSs G xa cal a W)) (hb : PSs X sb (rSs G xa cal b W)) : PS X (.If p sa sb pos) (rSt G xa cal (.iff e a b) W) :=
  PS.imp (ps_if hc ha hb) fun D σ H ⟨F, ι, h, ρ, r, en, P⟩ => by
    simp only [ex] at P
    refine rT_of (O := fun b' h1 => PostO G F xa ι H W D (if b' = true then exs cal a ρ h1 else exs cal b ρ h1)) r en ?_ fun d h1 H1 ι1 P1 g1 r1 => ?_
    · cases e1 : tru (ev cal e ρ h) with
      | ok b' h1 => rw [e1] at P; cases b' <;> exact P
      | er c h1 => rw [e1] at P; exact P
      | no => rw [e1] at P; exact P
    · cases d with
      | true => exact ⟨F, ι1, h1, ρ, r1, en.up g1 r.cellsOk, PostO.from P1 g1⟩
      | false => exact ⟨F, ι1, h1, ρ, r1, en.up g1 r.cellsOk, PostO.from P1 g1⟩
/-! while: turn by turn -/
def whileN (c : PL.Env → Hpp → R Bool) (b : PL.Env → Hpp → O) : Nat → PL.Env → Hpp → Option O
  | 0, _, _ => none
  | n + 1, ρ, h => match c ρ h with
    | .ok true h1 => match b ρ h1 with
      | .nx ρ' h' => whileN c b n ρ' h'
      | .ct ρ' h' => whileN c b n ρ' h'
      | .bk ρ' h' => some (.nx ρ' h')
      | .no => none
      | .rt d h' => some (.rt d h')
      | .er x ρ' h' => some (.er x ρ' h')
    | .ok false h1 => some (.nx ρ h1)
    | .er x h1 => some (.er x ρ h1)
    | .no => none
theorem whileO_N (c : PL.Env → Hpp → R Bool) (b : PL.Env → Hpp → O) : ∀ (ρ : PL.Env) (h : Hpp) (o : O), whileO c b ρ h = some o → ∃ n, whileN c b n ρ h = some o := by
  refine whileO.partial_correctness c b (fun ρ h o => ∃ n, whileN c b n ρ h = some o) fun f ih ρ h o e => ?_
  cases e1 : c ρ h with
  | ok k h1 =>
    rw [e1] at e
    cases k with
    | true =>
      simp only at e
      cases e2 : b ρ h1 with
      | nx ρ' h' =>
        rw [e2] at e
        obtain ⟨n, hn⟩ := ih _ _ _ e
        exact ⟨n + 1, by simp only [whileN, e1, e2]; exact hn⟩
      | ct ρ' h' =>
        rw [e2] at e
        obtain ⟨n, hn⟩ := ih _ _ _ e
        exact ⟨n + 1, by simp only [whileN, e1, e2]; exact hn⟩
      | bk ρ' h' => rw [e2] at e; exact ⟨1, by simp only [whileN, e1, e2]; exact e⟩
      | rt d h' => rw [e2] at e; exact ⟨1, by simp only [whileN, e1, e2]; exact e⟩
      | er x ρ' h' => rw [e2] at e; exact ⟨1, by simp only [whileN, e1, e2]; exact e⟩
      | no => rw [e2] at e; cases e
    | false => exact ⟨1, by simp only [whileN, e1]; exact e⟩
  | er x h1 => rw [e1] at e; exact ⟨1, by simp only [whileN, e1]; exact e⟩
  | no => rw [e1] at e; cases e
theorem snd_whl (c : CtxS T G xa cal k N sc fb W X) {e : E} {b : Ss} {p : Expr} {sb : List Stmt} {pos : Pos} (hc : PT X p (rT G xa cal e W)) (hb : PSs X sb (rSs G xa cal b W)) : PS X (.While p sb [] pos) (rSt G xa cal (.whl e b) W) :=
  PS.imp (ps_while c.own hc hb) fun D σ H ⟨F, ι, h, ρ, r, en, P⟩ => by
    simp only [ex, whileL] at P
    cases e0 : whileO (fun ρ h => tru (ev cal e ρ h)) (fun ρ h => exs cal b ρ h) ρ h with
    | none => rw [e0] at P; exact P.elim
    | some o =>
      rw [e0] at P
      have P : PostO G F xa ι H W D o := P
      obtain ⟨n, hn⟩ := whileO_N _ _ ρ h o e0
      refine ⟨fun m σ H' => ∃ ι' h' ρ', Grow H ι H' ι' ∧ Rel G F ι' H' h' ∧ EnvR G F ι' H' ρ' σ ∧ whileN (fun ρ h => tru (ev cal e ρ h)) (fun ρ h => exs cal b ρ h) m ρ' h' = some o, ⟨n, ι, h, ρ, Grow.refl, r, en, hn⟩, ?_⟩
      rintro m σ1 H1 ⟨ι1, h1, ρ1, g1, r1, en1, hm⟩
      cases m with
      | zero => cases hm
      | succ m =>
        simp only [whileN] at hm
        refine rT_of (O := fun b' h2 => tru (ev cal e ρ1 h1) = .ok b' h2) r1 en1 (Post.self (fun _ _ z => z) (fun x h2 z => ?_) fun z => ?_) fun d h2 H2 ι2 z g2 r2 => ?_
        · rw [z] at hm; cases hm
          exact erx.from P g1
        · rw [z] at hm; cases hm
        · rw [z] at hm
          have en2 := en1.up g2 r1.cellsOk
          cases d with
          | false =>
            cases hm
            exact P σ1 H2 ι2 (g1.trans g2) r2 en2
          | true =>
            simp only at hm
            refine ⟨fun σ3 H3 => ∃ ι' h' ρ', Grow H ι H3 ι' ∧ Rel G F ι' H3 h' ∧ EnvR G F ι' H3 ρ' σ3 ∧ whileN (fun ρ h => tru (ev cal e ρ h)) (fun ρ h => exs cal b ρ h) m ρ' h' = some o, fun σ3 H3 z3 => ⟨m, Nat.lt_succ_self m, z3⟩, ?_⟩
            refine ⟨F, ι2, h2, ρ1, r2, en2, ?_⟩
            cases e3 : exs cal b ρ1 h2 with
            | nx ρ' h' => rw [e3] at hm; exact fun σ3 H3 ι3 g3 r3 en3 => ⟨ι3, h', ρ', (g1.trans g2).trans g3, r3, en3, hm⟩
            | ct ρ' h' => rw [e3] at hm; exact fun σ3 H3 ι3 g3 r3 en3 => ⟨ι3, h', ρ', (g1.trans g2).trans g3, r3, en3, hm⟩
            | bk ρ' h' => rw [e3] at hm; cases hm; exact fun σ3 H3 ι3 g3 r3 en3 => P σ3 H3 ι3 ((g1.trans g2).trans g3) r3 en3
            | rt d h' => rw [e3] at hm; cases hm; exact okp.from (g1.trans g2) P
            | er x ρ' h' => rw [e3] at hm; cases hm; exact erx.from P (g1.trans g2)
            | no => rw [e3] at hm; cases hm
theorem snd_for (c : CtxS T G xa cal k N sc fb W X) {tg : Tg} {it : PL.Itr} {b : Ss} {t p : Expr} {sb : List Stmt} {pos : Pos} (pp : plain p = true) (hi : PI X t p (rI G xa cal it W)) (hg : PG X t (rG G tg)) (hb : PSs X sb (rSs G xa cal b W)) : PS X (.For t p sb [] pos) (rSt G xa cal (.for_ tg it b) W) :=
  PS.imp (ps_for c.own c.c.calm hi hg hb (plain_fold pp X.env)) fun D σ H ⟨F, ι, h, ρ, r, en, P⟩ => by
    simp only [ex] at P
    refine ⟨F, ι, h, ρ, r, en, Post.self (fun s h1 e1 J H1 ι1 g1 r1 wk => ?_) (fun x h1 e1 => by rw [e1] at P; exact P) fun e1 => by rw [e1] at P; exact P⟩
    rw [e1] at P
    have P := PostO.from P g1
    refine ⟨fun i m σ2 H2 => i + m = s.items.length ∧ ∃ ι2 h2 ρ2, Grow H1 ι1 H2 ι2 ∧ Rel G F ι2 H2 h2 ∧ EnvR G F ι2 H2 ρ2 σ2 ∧ PostO G F xa ι1 H1 W D (forL s.ok (fun ρ d => sto tg ρ d) (fun ρ h => exs cal b ρ h) (s.items.drop i) ρ2 h2),
      ⟨s.items.length, by omega, ι1, h1, ρ, Grow.refl, r1, en.up g1 r.cellsOk, P⟩, ?_⟩
    rintro i m σ2 H2 ⟨him, ι2, h2, ρ2, gg, rr, en2, PP⟩
    cases m with
    | zero =>
      left
      have hn : s.items.length ≤ i := by omega
      rw [List.drop_eq_nil_of_le hn] at PP
      simp only [forL] at PP
      split at PP
      · rename_i ck
        exact ⟨(wk F H2 ι2 h2 (fun _ z => .inl z) gg rr ck i).2 hn, PP σ2 H2 ι2 gg rr en2⟩
      · exact PP.elim
    | succ m =>
      right
      have hi : i < s.items.length := by omega
      rw [List.drop_eq_getElem_cons hi] at PP
      simp only [forL] at PP
      split at PP
      rotate_left
      · exact PP.elim
      rename_i ck
      obtain ⟨go, yl⟩ := (wk F H2 ι2 h2 (fun _ z => .inl z) gg rr ck i).1 s.items[i] (List.getElem?_eq_getElem hi)
      refine ⟨go, fun σ3 H3 => i + 1 + m = s.items.length ∧ ∃ ι2 h2 ρ2, Grow H1 ι1 H3 ι2 ∧ Rel G F ι2 H3 h2 ∧ EnvR G F ι2 H3 ρ2 σ3 ∧ PostO G F xa ι1 H1 W D (forL s.ok (fun ρ d => sto tg ρ d) (fun ρ h => exs cal b ρ h) (s.items.drop (i + 1)) ρ2 h2),
        fun σ3 H3 z => ⟨m, by omega, z⟩, fun x H3 hy => ?_⟩
      obtain ⟨r3, g3, rv⟩ := yl x H3 hy
      split at PP
      · exact PP.elim
      rename_i ρ3 hsto
      refine ⟨F, ι2, h2, ρ2, s.items[i], ρ3, r3, en2.up g3 rr.cellsOk, rv, hsto, fun σ4 en4 _ => ?_⟩
      refine ⟨F, ι2, h2, ρ3, r3, en4, ?_⟩
      have gg3 := gg.trans g3
      cases e5 : exs cal b ρ3 h2 with
      | nx ρ' h' => rw [e5] at PP; exact fun σ5 H5 ι5 g5 r5 en5 => ⟨by omega, ι5, h', ρ', gg3.trans g5, r5, en5, PP⟩
      | ct ρ' h' => rw [e5] at PP; exact fun σ5 H5 ι5 g5 r5 en5 => ⟨by omega, ι5, h', ρ', gg3.trans g5, r5, en5, PP⟩
      | bk ρ' h' => rw [e5] at PP; exact fun σ5 H5 ι5 g5 r5 en5 => PP σ5 H5 ι5 (gg3.trans g5) r5 en5
      | rt d h' => rw [e5] at PP; exact okp.from gg3 PP
      | er x ρ' h' => rw [e5] at PP; exact erx.from PP gg3
      | no => rw [e5] at PP; exact PP.elim
theorem snd_aug (c : CtxS T G xa cal k N sc fb W X) {i : Nat} {op : Bop} {e : E} {x : Str} {p : Expr} {q pos : Pos} (h1 : N[i]? = some x) (h2 : stoC sc fb x = true) (he : PE X p (rE G xa cal e W)) : PS X (.AugAssign (.Name x q) (pyOp op) p pos) (rSt G xa cal (.aug i op e) W) := by
  obtain ⟨l1, l2⟩ := c.c.sto h2
  refine PS.imp (ps_aug (by rw [c.c.hN]; exact c.c.nd) (by rw [c.c.hN]; exact h1) l1 he (op_iop G.fa G.nf G.nx op) l2) fun D σ H ⟨F, ι, h, ρ, r, en, P⟩ => ?_
  rw [c.c.eqK]
  simp only [ex] at P
  split at P
  · rename_i x e1
    obtain ⟨v, e2, rv⟩ := en.2 i x e1
    refine ⟨v, e2, rE_of r en P.thn fun d h1 v1 H1 ι1 P1 g1 r1 s1 => ?_⟩
    have rv1 := rv.up g1 r.cellsOk
    have en1 := en.up g1 r.cellsOk
    split at P1
    · rename_i a b
      refine ⟨F, ι1, h1, .int a, .int b, _, r1, rv1, s1, ⟨a, b, rfl, rfl⟩, P1.thn.imp (fun z h2 P2 w H2 ι2 g2 r2 s2 => ?_) fun _ _ z => z⟩
      exact P2 _ H2 ι2 (g1.trans g2) r2 ((en1.up g2 r1.cellsOk).set s2)
    · exact P1.elim
  · exact P.elim
end
end PL
end
section
set_option Elab.async false
set_option linter.all false
set_option maxRecDepth 100000
set_option maxHeartbeats 1000000
/-! PLS15: stores, raise, try. -/
namespace PL
open PySem PySem.Spec PyProof.Rows L2
/-! ### the checker for statements -/
mutual
def chkL (T : Tab) (N : List Str) (sc : Scope) (fb : Str → Bool) : Lv → Expr → Bool
  | .nil, _ => false
  | .name i, p => match vName p with
    | some x => decide (N[i]? = some x) && stoC sc fb x
    | none => false
  | .tup ts, p => match vTup p with
    | some es => plainAll es && chkLs T N sc fb ts es
    | none => false
  | .cons _ _, _ => false
  | .sub a b, p => match vSub p with
    | some q => chkE T N a sc fb q.1 && chkE T N b sc fb q.2
    | none => false
def chkLs (T : Tab) (N : List Str) (sc : Scope) (fb : Str → Bool) : Lv → List Expr → Bool
  | .nil, es => es.isEmpty
  | .cons t ts, es => match es with
    | e :: r => chkL T N sc fb t e && chkLs T N sc fb ts r
    | [] => false
  | .name _, _ => false
  | .tup _, _ => false
  | .sub _ _, _ => false
end
def PostL (G : Ge) (F : Addr → Prop) (xa : Nat → Addr) (ι : List Addr) (H : Hp) (W : WX) (Q : L2.St → Hp → Prop) (o : O) : Prop := PostO G F xa ι H W { nx := Q, rt := fun _ _ => False } o
def rL (G : Ge) (xa : Nat → Addr) (cal : Cal) (t : Lv) (W : WX) : TG := fun v σ H Q => ∃ (F : Addr → Prop) (ι : List Addr) (h : Hpp) (ρ : List (Option D)) (d : D), Rel G F ι H h ∧ EnvR G F ι H ρ σ ∧ VR G F ι H d v ∧ PostL G F xa ι H W Q (asg cal t d ρ h)
def rLs (G : Ge) (xa : Nat → Addr) (cal : Cal) (ts : Lv) (W : WX) : TGs := fun us σ H Q => ∃ (F : Addr → Prop) (ι : List Addr) (h : Hpp) (ρ : List (Option D)) (ds : List D), Rel G F ι H h ∧ EnvR G F ι H ρ σ ∧ VRs G F ι H ds us ∧ PostL G F xa ι H W Q (asgs cal ts ds ρ h)
section
variable {T : Tab} {G : Ge} {xa : Nat → Addr} {cal : Cal} {k : Nat} {N : List Str} {sc : Scope} {fb : Str → Bool} {W : WX} {X : Cx} {F : Addr → Prop} {ι : List Addr} {H : Hp} {h : Hpp} {ρ : List (Option D)} {σ : L2.St} {Q : VK} {D : Ends}
theorem chkL_plain : ∀ {t : Lv} {p : Expr}, chkL T N sc fb t p = true → plain p = true
  | .name i, p, ok => by
    simp only [chkL] at ok
    split at ok
    · rename_i x e
      obtain ⟨pos, rfl⟩ := vName_eq e
      rfl
    · cases ok
  | .tup ts, p, ok => by
    simp only [chkL] at ok
    split at ok
    · rename_i x e
      obtain ⟨⟨_, _, rfl⟩, _⟩ := vTup_eq e
      rfl
    · cases ok
  | .sub a b, p, ok => by
    simp only [chkL] at ok
    split at ok
    · rename_i x e
      obtain ⟨⟨_, rfl⟩, _⟩ := vSub_eq e
      rfl
    · cases ok
  | .nil, p, ok => by simp [chkL] at ok
  | .cons _ _, p, ok => by simp [chkL] at ok
theorem lvs_len : ∀ {ts : Lv} {ps : List Expr}, chkLs T N sc fb ts ps = true → ps.length = ts.len
  | .nil, ps, ok => by
    cases ps with
    | nil => rfl
    | cons _ _ => simp [chkLs] at ok
  | .name _, ps, ok => by simp [chkLs] at ok
  | .tup _, ps, ok => by simp [chkLs] at ok
  | .sub _ _, ps, ok => by simp [chkLs] at ok
  | .cons t ts, ps, ok => by
    cases ps with
    | nil => simp [chkLs] at ok
    | cons p ps =>
      simp only [chkLs, Bool.and_eq_true] at ok
      simp [Lv.len, lvs_len ok.2]
theorem plain_sub {o i : Expr} (h : plain i = true) (pos : Pos) (env : PySem.Env) : ∀ v, assign (.Subscript o i pos) env v = (do
      let ov ← holding [v] (eval o env)
      let iv ← holding [v, ov] (eval i env)
      standAt pos
      holding [v, ov, iv] (PySem.setItem ov iv v)
      release [v, ov, iv] []) := by
  cases i <;> first | (intro _; rfl) | cases h
mutual
theorem snd_lv (c : Ctx T G xa cal k N sc fb W X) : ∀ (t : Lv) (p : Expr), chkL T N sc fb t p = true → PG X p (rL G xa cal t W)
  | .nil, p, ok => by simp [chkL] at ok
  | .cons _ _, p, ok => by simp [chkL] at ok
  | .name i, p, ok => by
    simp only [chkL] at ok
    split at ok
    · rename_i x e
      obtain ⟨pos, rfl⟩ := vName_eq e
      rw [Bool.and_eq_true] at ok
      obtain ⟨o1, o2⟩ := ok
      obtain ⟨l1, l2⟩ := c.sto o2
      refine PG.imp (pg_name (by rw [c.hN]; exact c.nd) (by rw [c.hN]; exact of_decide_eq_true o1) l1 l2) fun v σ H Q ⟨F, ι, h, ρ, d, r, en, rv, P⟩ => ?_
      simp only [asg] at P
      exact P _ H ι Grow.refl r (en.set rv)
    · cases ok
  | .tup ts, p, ok => by
    simp only [chkL] at ok
    split at ok
    · rename_i es e
      obtain ⟨⟨kk, pos, rfl⟩, hl⟩ := vTup_eq e
      rw [Bool.and_eq_true] at ok
      obtain ⟨o1, o2⟩ := ok
      obtain ⟨l1, l2⟩ := plainAll_asg o1 X.env
      have hgs := snd_lvs c ts es o2
      refine ⟨fun pins s σ H v u Q I rv0 ⟨F, ι, h, ρ, d, r, en, rv, P⟩ => ?_⟩
      simp only [asg] at P
      split at P
      · rename_i ds
        obtain ⟨a, vs, rfl, t, u'⟩ := rv
        split at P
        · rename_i hlen
          exact (pg_tup c.calm hgs l1 l2).run pins s σ H _ u Q I rv0 ⟨a, vs, rfl, by rw [c.hK]; exact t, by rw [VRs.length u', hlen, lvs_len o2], F, ι, h, ρ, ds, r, en, u', P⟩
        · exact P.elim
      · exact P.elim
    · cases ok
  | .sub a b, p, ok => by
    simp only [chkL] at ok
    split at ok
    · rename_i q e
      obtain ⟨⟨pos, rfl⟩, pl⟩ := vSub_eq e
      simp only [Bool.and_eq_true] at ok
      have ih1 := (sndE a sc fb q.1 ok.1 W X c).1
      have ih2 := (sndE b sc fb q.2 ok.2 W X c).1
      refine PG.imp (pg_sub ih1 ih2 (set_item G.fa G.nf G.nx) (plain_sub pl pos X.env)) fun v σ H Q ⟨F, ι, h, ρ, d, r, en, rv, P⟩ => ?_
      rw [c.eqK]
      simp only [asg] at P
      refine rE_of (O := fun x h1 => PostL G F xa ι H W Q (match ev cal b ρ h1 with
        | .ok y h2 => match setItem x y d h2 with
          | some h3 => .nx ρ h3
          | none => .no
        | .er c h2 => .er c ρ h2
        | .no => .no)) r en (Post.self (fun x h1 e1 => by rw [e1] at P; exact P) (fun x h1 e1 => by rw [e1] at P; exact P) fun e1 => by rw [e1] at P; exact P) fun d1 h1 v1 H1 ι1 P1 g1 r1 s1 => ?_
      have P1 := PostO.from P1 g1
      refine rE_of (O := fun y h2 => PostL G F xa ι1 H1 W Q (match setItem d1 y d h2 with
          | some h3 => .nx ρ h3
          | none => .no)) r1 (en.up g1 r.cellsOk) (Post.self (fun x h1 e1 => by rw [e1] at P1; exact P1) (fun x h1 e1 => by rw [e1] at P1; exact P1) fun e1 => by rw [e1] at P1; exact P1) fun d2 h2 v2 H2 ι2 P2 g2 r2 s2 => ?_
      cases e3 : setItem d1 d2 d h2 with
      | none => rw [e3] at P2; exact P2.elim
      | some h3 =>
        rw [e3] at P2
        refine ⟨F, ι2, h2, d1, d2, d, h3, r2, s1.up g2 r1.cellsOk, s2, (rv.up g1 r.cellsOk).up g2 r1.cellsOk, e3, fun H3 g3 r3 => ?_⟩
        exact P2 σ H3 ι2 (g2.trans g3) r3 (((en.up g1 r.cellsOk).up g2 r1.cellsOk).up g3 r2.cellsOk)
    · cases ok
theorem snd_lvs (c : Ctx T G xa cal k N sc fb W X) : ∀ (ts : Lv) (ps : List Expr), chkLs T N sc fb ts ps = true → PGs X ps (rLs G xa cal ts W)
  | .nil, ps, ok => by
    cases ps with
    | nil =>
      refine PGs.imp pgs_nil fun v σ H Q ⟨F, ι, h, ρ, d, r, en, rv, P⟩ => ?_
      cases d with
      | nil => exact ⟨rv, P σ H ι Grow.refl r en⟩
      | cons _ _ => simp only [asgs] at P; exact P.elim
    | cons _ _ => simp [chkLs] at ok
  | .name _, ps, ok => by simp [chkLs] at ok
  | .tup _, ps, ok => by simp [chkLs] at ok
  | .sub _ _, ps, ok => by simp [chkLs] at ok
  | .cons t ts, ps, ok => by
    cases ps with
    | nil => simp [chkLs] at ok
    | cons p ps =>
      simp only [chkLs, Bool.and_eq_true] at ok
      refine PGs.imp (pgs_cons (snd_lv c t p ok.1) (snd_lvs c ts ps ok.2) (by rw [plain_asg (chkL_plain ok.1)]; rfl)) fun v σ H Q ⟨F, ι, h, ρ, ds, r, en, rv, P⟩ => ?_
      cases ds with
      | nil => simp only [asgs] at P; exact P.elim
      | cons d ds =>
        simp only [asgs] at P
        obtain ⟨u, us, rfl, ru, rus⟩ := rv
        refine ⟨u, us, rfl, F, ι, h, ρ, d, r, en, ru, ?_⟩
        cases e : asg cal t d ρ h with
        | nx ρ1 h1 =>
          rw [e] at P
          exact fun σ' H' ι' g' r' e' => ⟨F, ι', h1, ρ1, ds, r', e', rus.up g' r.cellsOk, PostO.from P g'⟩
        | rt d h' => rw [e] at P; exact P
        | bk ρ' h' => rw [e] at P; exact P
        | ct ρ' h' => rw [e] at P; exact P
        | er c ρ' h' => rw [e] at P; exact P
        | no => rw [e] at P; exact P
end
end
end PL
end
section
set_option Elab.async false
set_option linter.all false
set_option maxRecDepth 100000
set_option maxHeartbeats 1000000
/-! PLS16: raise, try, assignment statements; all statements together. -/
namespace PL
open PySem PySem.Spec PyProof.Rows L2
/-! ### views of statements -/
def noComp : Expr → Bool
  | .ListComp _ _ _ _ => false
  | .SetComp _ _ _ _ => false
  | .DictComp _ _ _ _ _ => false
  | _ => true
theorem swaps_no {e : Expr} (h : noComp e = true) (t : Option Expr) (l : Nat) (env : PySem.Env) : swapsWith e t l env = pure false := by
  cases e <;> first | rfl | cases h
def isTupE : Expr → Bool
  | .Tuple _ _ _ => true
  | _ => false
theorem stores_no {t e : Expr} (h : isTupE e = false) (env : PySem.Env) : swappedStores [t] e env = pure none := by
  cases e <;> first | rfl | (cases h; done) | (cases t <;> rfl)
theorem stores_noT {t e : Expr} (h : ∀ a b c, t ≠ .Tuple a b c) (h2 : ∀ a b, t ≠ .List a b) (env : PySem.Env) : swappedStores [t] e env = pure none := by
  cases t <;> first | rfl | exact absurd rfl (h _ _ _) | exact absurd rfl (h2 _ _) | (cases e <;> rfl)
/-- which names a tuple display is stored to in one go -/
def swF (sc : Scope) (ts vs : List Expr) : Option (Option (List Str)) :=
  if (!(ts.length == 2 || ts.length == 3) || vs.length != ts.length) = true then some none
  else if (vs.any fun | .Starred .. => true | _ => false) = true then some none
  else
    let line := (ts.head?.map (·.pos.line)).getD 0
    let names := ts.filterMap fun
      | .Name id pos => if sc.names.lookup id == some .local && pos.line == line then some id else none
      | _ => none
    if (names.length != ts.length || names.eraseDups.length != names.length) = true then some none
    else if vs.all (foldedForSure 8) = true then some none
    else if vs.all (constantsAlone 8) = true then none
    else some (some names)
theorem swF_ok {sc : Scope} {env : PySem.Env} {ts vs : List Expr} {k k2 : Nat} {p p2 : Pos} {r : Option (List Str)} (hs : env.scope = sc) (hk : sc.kind = .function) (h : swF sc ts vs = some r) : swappedStores [.Tuple ts k p] (.Tuple vs k2 p2) env = pure r := by
  have hb : env.blockKind = .function := by
    unfold Env.blockKind
    rw [hs, hk]; rfl
  have hkk : ∀ x, env.kindOf x = sc.names.lookup x := fun x => by rw [← hs]; rfl
  unfold swF at h
  unfold swappedStores
  simp only [hb, hkk, bne_self_eq_false, Bool.or_false]
  split at h
  · rename_i c1
    cases h
    exact if_pos c1
  rename_i c1
  refine (if_neg c1).trans ?_
  split at h
  · rename_i c2
    cases h
    exact if_pos c2
  rename_i c2
  refine (if_neg c2).trans ?_
  simp only at h
  split at h
  · rename_i c3
    cases h
    exact if_pos c3
  rename_i c3
  refine (if_neg c3).trans ?_
  split at h
  · rename_i c4
    cases h
    exact if_pos c4
  rename_i c4
  refine (if_neg c4).trans ?_
  split at h
  · cases h
  rename_i c5
  cases h
  exact if_neg c5
end PL
end
section
set_option Elab.async false
set_option linter.all false
set_option maxRecDepth 100000
set_option maxHeartbeats 1000000
/-! PLS17: raise, try, assignments. -/
namespace PL
open PySem PySem.Spec PyProof.Rows L2
theorem swaps_tup {v : Expr} {es : List Expr} {k : Nat} {p : Pos} {l : Nat} {env : PySem.Env} : swapsWith v (some (.Tuple es k p)) l env = pure false := by cases v <;> rfl
theorem swaps_sub {v a b : Expr} {p : Pos} {l : Nat} {env : PySem.Env} : swapsWith v (some (.Subscript a b p)) l env = pure false := by cases v <;> rfl
theorem sw_cell {elt : Expr} {gs : List Comprehension} {scope : Scope} {pos py : Pos} {y : Str} {l : Nat} {env : PySem.Env} (hy : env.scope.names.lookup y = some .cell) : swapsWith (.ListComp elt gs scope pos) (some (.Name y py)) l env = pure false := by
  have e : env.kindOf y = some .cell := hy
  show (pure (env.blockKind == .function && env.kindOf y == some .local && py.line == pos.line && !(scope.names.any fun (n, k) => n == y && (k == .local || k == .cell))) : Sem Bool) = pure false
  rw [e]
  congr 1
  have : (some NameKind.cell == some NameKind.local) = false := rfl
  rw [this, Bool.and_false, Bool.false_and, Bool.false_and]
section
variable {X : Cx}
theorem pmk_own0 {C : Addr} {bmB : List Value} {B newId initId : String} {x : Str} {p pos : Pos} (F : ExcBaseFacts B newId initId bmB) (q : PySem.W.excIn X.K C bmB newId = true) (gC : X.mg x = some (.ref C))
    (kC : PySem.W.keepIn X.K (.ref C) = true) (r : Raises X (.ref C)) (hg : Gl X x) (hdb : (x == ("__debug__" : Str)) = false) :
    PMk X (.Call (.Name x p) [] [] pos) (fun σ H Q => Q (.ref C) none H) := by
  intro pins s σ H Q I h
  refine wpAny_Call_Name_kw (ld_glob I hg gC ?_ hdb)
  refine PySem.W.callWith_K0 I.kIn kC ?_
  show wpAny _ _ (call (.ref C) []) _ _ _
  obtain ⟨bm, N, nm, qn, bs, hdct, sn, sub, ab, col, dd, k0, k1, k2, k3, k5, mN, hC, hN, hni, T⟩ := exc_obj I.kIn q
  refine wpAny_call_exc_subT F T hC hN hni (fun h' e hm => ?_) (Nat.zero_le _)
  exact mk_of I hm r h (I.hok.gone hm.new)
end
/-! constants of a handler -/
def cstV : D → Option V
  | .non => some .non
  | .bl b => some (.bl b)
  | .int i => some (.int i)
  | .str s => some (.str s)
  | _ => none
def chkC (d : D) (p : Expr) : Bool := match asConst p with
  | some (c, _, _) => match d, c with
    | .non, .none => true
    | .bl b, .bool c => b == c
    | .int i, .int j => decide (i = j)
    | .str s, .str t => decide (s = t)
    | _, _ => false
  | none => false
theorem chkC_ok {d : D} {p : Expr} (ok : chkC d p = true) : ∃ v, (∀ X : Cx, PE X p (tC v)) ∧ ∀ (G : Ge) (F : Addr → Prop) (ι : List Addr) (H : Hp), VR G F ι H d v := by
  unfold chkC at ok
  split at ok
  · rename_i c j pos e
    rw [asConst_eq e]
    simp only
    split at ok
    · exact ⟨.non, fun X => pe_non, fun _ _ _ _ => rfl⟩
    · cases (eq_of_beq ok)
      exact ⟨.bl _, fun X => pe_bl, fun _ _ _ _ => rfl⟩
    · cases (of_decide_eq_true ok)
      exact ⟨.int _, fun X => pe_int, fun _ _ _ _ => rfl⟩
    · cases (of_decide_eq_true ok)
      exact ⟨.str _, fun X => pe_str, fun _ _ _ _ => rfl⟩
    · cases ok
  · cases ok
def chkH (T : Tab) (sc : Scope) : Hs → List ExceptHandler → Bool
  | .nil, hs => hs.isEmpty
  | .cons c d r, hs => match hs with
    | .ExceptHandler (some (.Name x _)) none [.Return (some p) _] _ :: hs => decide (T.xname[c]? = some x) && glC sc x && goodName x && chkC d p && chkH T sc r hs
    | _ => false
section
variable {T : Tab} {G : Ge} {xa : Nat → Addr} {cal : Cal} {k : Nat} {N : List Str} {sc : Scope} {fb : Str → Bool} {W : WX} {X : Cx} {F : Addr → Prop} {ι : List Addr} {H : Hp} {h : Hpp} {ρ : List (Option D)} {σ : L2.St} {Q : VK} {D : Ends}
theorem snd_raise (c : Ctx T G xa cal k N sc fb W X) {e : Nat} {x : Str} {p pos pos2 : Pos} (h1 : T.xname[e]? = some x) (h2 : glC sc x = true) (h3 : goodName x = true) : PS X (.Raise (some (.Call (.Name x p) [] [] pos)) none pos2) (rSt G xa cal (.raise e) W) := by
  obtain ⟨gm, kp, rs, bm, B, ni, ii, F, q⟩ := c.exc e x h1
  refine PS.imp (ps_raise c.calm c.takes (pmk_own0 F q gm kp rs (c.gl h2) (good_is h3).1)) fun D σ H ⟨F, ι, h, ρ, r, en, P⟩ => ?_
  have P : erx G F xa ι H W e h := P
  exact P (by rw [c.nx]; exact (List.getElem?_eq_some_iff.mp h1).1) H ι Grow.refl r none σ
theorem hds_ok (c : CtxS T G xa cal k N sc fb W X) : ∀ (hs : Hs) (l : List ExceptHandler), chkH T sc hs l = true → ∃ L, HdsOk X l L ∧ ∀ (D : Ends) (e : Nat) (ρ' : List (Option PL.D)) (h' : Hpp) (F : Addr → Prop) (ι : List Addr) (H : Hp), e < G.nx → PostO G F xa ι H W D (exh cal hs e ρ' h') → Rel G F ι H h' →
      ∀ dx σ, wMany X.K W D L (.ref (xa e)) dx σ H
  | .nil, l, ok => by
    cases l with
    | nil => exact ⟨[], .nil, fun D e ρ' h' F ι H he P r dx σ => (show erx G F xa ι H W e h' from P) he H ι Grow.refl r dx σ⟩
    | cons _ _ => simp [chkH] at ok
  | .cons j d hs, l, ok => by
    simp only [chkH] at ok
    split at ok
    · rename_i x np p rp pos' l'
      simp only [Bool.and_eq_true] at ok
      obtain ⟨⟨⟨⟨o1, o2⟩, o3⟩, o4⟩, o5⟩ := ok
      have o1 := of_decide_eq_true o1
      obtain ⟨L, hL, sem⟩ := hds_ok c hs l' o5
      obtain ⟨v, hv, hr⟩ := chkC_ok o4
      obtain ⟨gm, kp, rs, _⟩ := c.c.exc j x o1
      have hj : j < G.nx := by rw [c.c.nx]; exact (List.getElem?_eq_some_iff.mp o1).1
      refine ⟨(.ref (xa j), fun _ _ _ => tRet (tC v)) :: L, .cons ⟨c.c.gl o2, (good_is o3).1, .inl gm⟩ (fun a oe cls dd pn _ _ => pss_one (ps_ret (hv _))) hL, fun D e ρ' h' F ι H he P r dx σ => ?_⟩
      refine ⟨decide (e = j), c.c.exm e j he hj, fun eb a _ => ?_, fun eb => ?_⟩
      · have eb := of_decide_eq_true eb
        subst eb
        simp only [exh, if_pos] at P
        exact (show okp G F ι H D.rt d h' from P) v H ι Grow.refl r (hr G F ι H)
      · have eb := of_decide_eq_false eb
        simp only [exh] at P
        rw [if_neg (fun z => eb z.symm)] at P
        exact sem D e ρ' h' F ι H he P r dx σ
    · cases ok
theorem CtxS.tr (c : CtxS T G xa cal k N sc fb W X) {W' : WX} {pn : List (Addr × Obj)} {xe : Value → Shared → Prop} (tk : Takes (X.tr pn xe) W') (own : PassesOwn (model X.prog X.w) X.A X.env xe) : CtxS T G xa cal k N sc fb W' (X.tr pn xe) where
  c := ⟨c.c.hK, c.c.hN, c.c.nd, c.c.sc, c.c.fn, c.c.calm, c.c.room, tk, c.c.fnm, c.c.fns, c.c.nf, c.c.nx, c.c.exc, c.c.exm, c.c.free, c.c.cst⟩
  own := own
  stk := c.stk
  fr := c.fr
  kind := c.kind
theorem snd_tr (c : CtxS T G xa cal k N sc fb W X) {b : Ss} {hs : Hs} {body : List Stmt} {l : List ExceptHandler} {pos : Pos} (ne : l.isEmpty = false) (ok : chkH T sc hs l = true) (hb : ∀ W' X', CtxS T G xa cal k N sc fb W' X' → PSs X' body (rSs G xa cal b W')) : PS X (.Try body l [] [] pos) (rSt G xa cal (.tr b hs) W) := by
  obtain ⟨L, hL, sem⟩ := hds_ok c hs l ok
  cases l with
  | nil => cases ne
  | cons h0 l =>
    refine PS.imp (ps_try_many (tb := fun W' => rSs G xa cal b W') c.stk c.fr c.c.takes (fun W' pn xe tk own => hb W' _ (c.tr tk own)) hL) fun D σ H ⟨F, ι, h, ρ, r, en, P⟩ => ?_
    refine ⟨F, ι, h, ρ, r, en, ?_⟩
    simp only [ex] at P
    cases e : exs cal b ρ h with
    | er x ρ' h' =>
      rw [e] at P
      exact fun hx H' ι' g' r' dx σ' => sem D x ρ' h' F ι' H' hx (PostO.from P g') r' dx σ'
    | nx ρ' h' => rw [e] at P; exact P
    | rt d h' => rw [e] at P; exact P
    | bk ρ' h' => rw [e] at P; exact P
    | ct ρ' h' => rw [e] at P; exact P
    | no => rw [e] at P; exact P.elim
/-! stores end as they should -/
def stoO : O → Prop
  | .nx _ _ => True
  | .er _ _ _ => True
  | .no => True
  | _ => False
mutual
theorem asg_o : ∀ (t : Lv) (d : PL.D) (ρ : List (Option PL.D)) (h : Hpp), stoO (asg cal t d ρ h)
  | .nil, d, ρ, h => by simp [asg, stoO]
  | .name i, d, ρ, h => by simp [asg, stoO]
  | .tup ts, d, ρ, h => by
    simp only [asg]
    split
    · split
      · exact asgs_o ts _ ρ h
      · trivial
    · trivial
  | .cons _ _, d, ρ, h => by simp [asg, stoO]
  | .sub a b, d, ρ, h => by
    simp only [asg]
    split
    · split
      · split <;> trivial
      · trivial
      · trivial
    · trivial
    · trivial
theorem asgs_o : ∀ (t : Lv) (d : List PL.D) (ρ : List (Option PL.D)) (h : Hpp), stoO (asgs cal t d ρ h)
  | .nil, d, ρ, h => by cases d <;> simp [asgs, stoO]
  | .name i, d, ρ, h => by simp [asgs, stoO]
  | .tup ts, d, ρ, h => by simp [asgs, stoO]
  | .sub _ _, d, ρ, h => by simp [asgs, stoO]
  | .cons t ts, d, ρ, h => by
    cases d with
    | nil => simp [asgs, stoO]
    | cons d ds =>
      simp only [asgs]
      have q := asg_o t d ρ h
      cases e : asg cal t d ρ h with
      | nx ρ' h' => exact asgs_o ts ds ρ' h'
      | rt _ _ => rw [e] at q; exact q
      | bk _ _ => rw [e] at q; exact q
      | ct _ _ => rw [e] at q; exact q
      | er _ _ _ => trivial
      | no => trivial
end
theorem PostO.toL {o : O} (p : PostO G F xa ι H W D o) (s : stoO o) : PostL G F xa ι H W D.nx o := by
  cases o with
  | nx ρ' h' => exact p
  | er c ρ' h' => exact p
  | no => exact p
  | rt _ _ => exact s.elim
  | bk _ _ => exact s.elim
  | ct _ _ => exact s.elim
theorem snd_asg {t : Lv} {e : E} {tg p : Expr} {pos : Pos} (pt : plain tg = true) (he : PE X p (rE G xa cal e W)) (hg : PG X tg (rL G xa cal t W)) (hs : swapsWith p (some tg) pos.line X.env = pure false) (hw : swappedStores [tg] p X.env = pure none) : PS X (.Assign [tg] p pos) (rSt G xa cal (.asg t e) W) :=
  PS.imp (ps_asg he hg hs hw (by rw [plain_asg pt]; rfl)) fun D σ H ⟨F, ι, h, ρ, r, en, P⟩ => by
    simp only [ex] at P
    refine rE_of r en P.thn fun d h1 v H1 ι1 P1 g1 r1 s1 => ?_
    exact ⟨F, ι1, h1, ρ, d, r1, en.up g1 r.cellsOk, s1, (PostO.from P1 g1).toL (asg_o t d ρ h1)⟩
/-- a comprehension's list to a name on its line -/
theorem snd_asgC {i : Nat} {e : E} {y : Str} {py : Pos} {p : Expr} {pos : Pos} (q : PS X (.Assign [.Name y py] p pos) (tAsg (rE G xa cal e W) (gName i))) : PS X (.Assign [.Name y py] p pos) (rSt G xa cal (.asg (.name i) e) W) :=
  PS.imp q fun D σ H ⟨F, ι, h, ρ, r, en, P⟩ => by
    simp only [ex] at P
    refine rE_of r en P.thn fun d h1 v H1 ι1 P1 g1 r1 s1 => ?_
    exact P1 _ H1 ι1 g1 r1 ((en.up g1 r.cellsOk).set s1)
theorem snd_par2 (c : CtxS T G xa cal k N sc fb W X) {i j : Nat} {x y : Str} {a b : Expr} {es : Es} {px py pt pos : Pos} {kt k2 : Nat} {pt2 : Pos} (h1 : N[i]? = some x) (h2 : N[j]? = some y) (ne : i ≠ j) (l1 : sc.names.lookup x = some .local) (l2 : sc.names.lookup y = some .local)
    (sw : swF sc [.Name x px, .Name y py] [a, b] = some (some [x, y])) (hs : PA X [a, b] (rA G xa cal es W)) :
    PS X (.Assign [.Tuple [.Name x px, .Name y py] kt pt] (.Tuple [a, b] k2 pt2) pos) (rSt G xa cal (.asg (.tup (.cons (.name i) (.cons (.name j) .nil))) (.tup es)) W) :=
  PS.imp (ps_par c.c.calm (by rw [c.c.hN]; exact c.c.nd) (by rw [c.c.hN]; exact h1) (by rw [c.c.hN]; exact h2) ne (by rw [c.c.sc]; exact l1) (by rw [c.c.sc]; exact l2) hs (swF_ok c.c.sc c.kind sw) rfl) fun D σ H ⟨F, ι, h, ρ, r, en, P⟩ => by
    simp only [ex, ev] at P
    have P2 : Post (evs cal es ρ h) (fun ds h1 => PostO G F xa ι H W D (asg cal (.tup (.cons (.name i) (.cons (.name j) .nil))) (.tup ds) ρ h1)) (erx G F xa ι H W) := by
      cases e : evs cal es ρ h with
      | ok ds h1 => rw [e] at P; exact P
      | er c h1 => rw [e] at P; exact P
      | no => rw [e] at P; exact P
    refine rA_of r en P2 fun ds h1 vs H1 ι1 P1 g1 r1 s1 => ?_
    simp only [asg] at P1
    split at P1
    · rename_i hl
      match ds, hl, s1, P1 with
      | [d1, d2], _, s1, P1 =>
        obtain ⟨v1, v2, rfl, s1, s2⟩ := VRs.two_of s1
        simp only [asgs, asg] at P1
        exact ⟨v1, v2, rfl, P1 _ H1 ι1 g1 r1 (((en.up g1 r.cellsOk).set s1).set s2)⟩
    · exact P1.elim
theorem snd_par3 (c : CtxS T G xa cal k N sc fb W X) {i j l : Nat} {x y z : Str} {a b d : Expr} {es : Es} {px py pz pt pos : Pos} {kt k2 : Nat} {pt2 : Pos} (h1 : N[i]? = some x) (h2 : N[j]? = some y) (h3 : N[l]? = some z) (n1 : i ≠ j) (n2 : i ≠ l) (n3 : j ≠ l) (l1 : sc.names.lookup x = some .local) (l2 : sc.names.lookup y = some .local) (l3 : sc.names.lookup z = some .local)
    (sw : swF sc [.Name x px, .Name y py, .Name z pz] [a, b, d] = some (some [x, y, z])) (hs : PA X [a, b, d] (rA G xa cal es W)) :
    PS X (.Assign [.Tuple [.Name x px, .Name y py, .Name z pz] kt pt] (.Tuple [a, b, d] k2 pt2) pos) (rSt G xa cal (.asg (.tup (.cons (.name i) (.cons (.name j) (.cons (.name l) .nil)))) (.tup es)) W) :=
  PS.imp (ps_par3 c.c.calm (by rw [c.c.hN]; exact c.c.nd) (by rw [c.c.hN]; exact h1) (by rw [c.c.hN]; exact h2) (by rw [c.c.hN]; exact h3) n1 n2 n3 (by rw [c.c.sc]; exact l1) (by rw [c.c.sc]; exact l2) (by rw [c.c.sc]; exact l3) hs (swF_ok c.c.sc c.kind sw) rfl) fun D σ H ⟨F, ι, h, ρ, r, en, P⟩ => by
    simp only [ex, ev] at P
    have P2 : Post (evs cal es ρ h) (fun ds h1 => PostO G F xa ι H W D (asg cal (.tup (.cons (.name i) (.cons (.name j) (.cons (.name l) .nil)))) (.tup ds) ρ h1)) (erx G F xa ι H W) := by
      cases e : evs cal es ρ h with
      | ok ds h1 => rw [e] at P; exact P
      | er c h1 => rw [e] at P; exact P
      | no => rw [e] at P; exact P
    refine rA_of r en P2 fun ds h1 vs H1 ι1 P1 g1 r1 s1 => ?_
    simp only [asg] at P1
    split at P1
    · rename_i hl
      match ds, hl, s1, P1 with
      | [d1, d2, d3], _, s1, P1 =>
        obtain ⟨v1, t, rfl, sv1, st⟩ := s1
        obtain ⟨v2, v3, rfl, s2, s3⟩ := VRs.two_of st
        simp only [asgs, asg] at P1
        exact ⟨v1, v2, v3, rfl, P1 _ H1 ι1 g1 r1 ((((en.up g1 r.cellsOk).set sv1).set s2).set s3)⟩
    · exact P1.elim
end
end PL
end
section
set_option Elab.async false
set_option linter.all false
set_option maxRecDepth 100000
set_option maxHeartbeats 1000000
/-! PLS18: all statements together. -/
namespace PL
open PySem PySem.Spec PyProof.Rows L2
def sameLine (sc : Scope) (y : Str) (py : Pos) (v : Expr) : Bool := match sc.names.lookup y with
  | some .cell => match v with
    | .ListComp _ _ _ _ => true
    | _ => false
  | _ => false
def setC (sc : Scope) (y : Str) (py : Pos) (e : E) (v : Expr) : Bool := match e, v with
  | .comp _ _ _ _ _ _, .ListComp _ _ scope p => decide (sc.names.lookup y = some .local) && (py.line == p.line) && !(scope.names.any fun (n, k) => n == y && (k == .local || k == .cell))
  | _, _ => false
def chkPar (T : Tab) (N : List Str) (sc : Scope) (fb : Str → Bool) (ts : Lv) (es vs : List Expr) (names : List Str) (e : E) : Bool := match ts, es, vs, e with
  | .cons (.name i) (.cons (.name j) .nil), [.Name x _, .Name y _], [a, b], .tup ees =>
    decide (N[i]? = some x) && decide (N[j]? = some y) && decide (i ≠ j) && decide (sc.names.lookup x = some .local) && decide (sc.names.lookup y = some .local) && decide (names = [x, y]) && chkEs T N ees sc fb [a, b]
  | .cons (.name i) (.cons (.name j) (.cons (.name l) .nil)), [.Name x _, .Name y _, .Name z _], [a, b, d], .tup ees =>
    decide (N[i]? = some x) && decide (N[j]? = some y) && decide (N[l]? = some z) && decide (i ≠ j) && decide (i ≠ l) && decide (j ≠ l) && decide (sc.names.lookup x = some .local) && decide (sc.names.lookup y = some .local) && decide (sc.names.lookup z = some .local) && decide (names = [x, y, z]) && chkEs T N ees sc fb [a, b, d]
  | _, _, _, _ => false
def chkAsg (T : Tab) (N : List Str) (sc : Scope) (fb : Str → Bool) (t : Lv) (e : E) (tg v : Expr) : Bool := match t, tg with
  | .name i, .Name y py => decide (N[i]? = some y) && stoC sc fb y && chkE T N e sc fb v && (noComp v || sameLine sc y py v || setC sc y py e v)
  | .tup ts, .Tuple es k p => match v with
    | .Tuple vs _ _ => match swF sc es vs with
      | some none => chkL T N sc fb (.tup ts) (.Tuple es k p) && chkE T N e sc fb v
      | some (some names) => chkPar T N sc fb ts es vs names e
      | none => false
    | v => chkL T N sc fb (.tup ts) (.Tuple es k p) && chkE T N e sc fb v
  | .sub a b, .Subscript x y p => chkL T N sc fb (.sub a b) (.Subscript x y p) && chkE T N e sc fb v
  | _, _ => false
mutual
def chkS (T : Tab) (N : List Str) (sc : Scope) (fb : Str → Bool) : S → Stmt → Bool
  | .exp e, st => match st with
    | .Expr p _ => noComp p && chkE T N e sc fb p
    | _ => false
  | .asg t e, st => match st with
    | .Assign [tg] v _ => chkAsg T N sc fb t e tg v
    | _ => false
  | .aug i op e, st => match st with
    | .AugAssign (.Name x _) o p _ => decide (o = pyOp op) && decide (N[i]? = some x) && stoC sc fb x && chkE T N e sc fb p
    | _ => false
  | .augs _ _ _ _, _ => false
  | .iff c a b, st => match st with
    | .If p sa sb _ => chkE T N c sc fb p && chkSs T N sc fb a sa && chkSs T N sc fb b sb
    | _ => false
  | .whl c b, st => match st with
    | .While p sb [] _ => chkE T N c sc fb p && chkSs T N sc fb b sb
    | _ => false
  | .for_ tg it b, st => match st with
    | .For t p sb [] _ => plain p && chkI T N it sc fb t p && chkG N sc fb tg t && chkSs T N sc fb b sb
    | _ => false
  | .ret e, st => match st with
    | .Return (some p) _ => chkE T N e sc fb p
    | _ => false
  | .retn, st => match st with
    | .Return none _ => true
    | _ => false
  | .raise c, st => match st with
    | .Raise (some (.Call (.Name x _) [] [] _)) none _ => decide (T.xname[c]? = some x) && glC sc x && goodName x
    | _ => false
  | .tr b hs, st => match st with
    | .Try body l [] [] _ => !l.isEmpty && chkH T sc hs l && chkSs T N sc fb b body
    | _ => false
  | .pass, st => match st with
    | .Pass _ => true
    | _ => false
  | .cont, st => match st with
    | .Continue _ => true
    | _ => false
  | .brk, st => match st with
    | .Break _ => true
    | _ => false
def chkSs (T : Tab) (N : List Str) (sc : Scope) (fb : Str → Bool) : Ss → List Stmt → Bool
  | .nil, sts => sts.isEmpty
  | .cons s ss, sts => match sts with
    | st :: sts => chkS T N sc fb s st && chkSs T N sc fb ss sts
    | [] => false
end
theorem isTupE_of {v : Expr} (h : ∀ (a : List Expr) (b : Nat) (c : Pos), v = .Tuple a b c → False) : isTupE v = false := by
  cases v <;> first | rfl | exact (h _ _ _ rfl).elim
section
variable {T : Tab} {G : Ge} {xa : Nat → Addr} {cal : Cal} {k : Nat} {N : List Str} {sc : Scope} {fb : Str → Bool} {W : WX} {X : Cx} {F : Addr → Prop} {ι : List Addr} {H : Hp} {h : Hpp} {ρ : List (Option D)} {σ : L2.St} {Q : VK} {D : Ends}
theorem snd_assign (c : CtxS T G xa cal k N sc fb W X) {t : Lv} {e : E} {tg v : Expr} {pos : Pos} (ok : chkAsg T N sc fb t e tg v = true) : PS X (.Assign [tg] v pos) (rSt G xa cal (.asg t e) W) := by
  unfold chkAsg at ok
  split at ok
  · rename_i i y py
    simp only [Bool.and_eq_true, Bool.or_eq_true] at ok
    obtain ⟨⟨⟨o1, o2⟩, o3⟩, o4⟩ := ok
    have he := (sndE e sc fb v o3 W X c.c).1
    have hl : chkL T N sc fb (.name i) (.Name y py) = true := by
      simp only [chkL, vName, Bool.and_eq_true]
      exact ⟨o1, o2⟩
    have hg := snd_lv c.c (.name i) (.Name y py) hl
    rcases o4 with (o4 | o4) | o4
    · exact snd_asg rfl he hg (swaps_no o4 _ _ _) (stores_noT (fun _ _ _ z => by cases z) (fun _ _ z => by cases z) _)
    · unfold sameLine at o4
      split at o4
      · rename_i hy
        split at o4
        · exact snd_asg rfl he hg (sw_cell (by rw [c.c.sc]; exact hy)) (stores_noT (fun _ _ _ z => by cases z) (fun _ _ z => by cases z) _)
        · cases o4
      · cases o4
    · unfold setC at o4
      split at o4
      · rename_i th elt tg it cs own ee gs scope p
        simp only [Bool.and_eq_true, Bool.not_eq_true'] at o4
        obtain ⟨⟨q1, q2⟩, q3⟩ := o4
        have q1 := of_decide_eq_true q1
        rw [chkE] at o3
        split at o3
        · rename_i q eq
          obtain ⟨⟨p', ep⟩, pl, hl⟩ := vComp_eq eq
          cases ep
          simp only [Bool.and_eq_true] at o3
          obtain ⟨⟨⟨⟨⟨r1, r2⟩, r3⟩, r4⟩, r5⟩, r6⟩ := o3
          refine snd_asgC (snd_setComp (th := th) c.c pl r1 r2 (sndI it sc fb q.tg q.it r3 W X c.c)
            (fun X' c' => snd_tg c' tg q.tg r4)
            (fun X' c' => (sndEs cs (relS q.scope sc) (fbOf q.scope) q.ifs r5 _ X' c').2 hl)
            (fun X' c' => (sndE elt (relS q.scope sc) (fbOf q.scope) q.elt r6 _ X' c').1) (of_decide_eq_true o1) q1 ?_)
          exact sw_true (by rw [c.c.sc]; exact c.kind) (by rw [c.c.sc]; exact q1) q2 q3
        · cases o3
      · cases o4
  · rename_i ts es kk p
    split at ok
    · rename_i vs k2 p2
      split at ok
      · rename_i sw
        simp only [Bool.and_eq_true] at ok
        exact snd_asg rfl (sndE e sc fb _ ok.2 W X c.c).1 (snd_lv c.c _ _ ok.1) swaps_tup (swF_ok c.c.sc c.kind sw)
      · rename_i names sw
        unfold chkPar at ok
        split at ok
        · simp only [Bool.and_eq_true] at ok
          obtain ⟨⟨⟨⟨⟨⟨o1, o2⟩, o3⟩, o4⟩, o5⟩, o6⟩, o7⟩ := ok
          rw [of_decide_eq_true o6] at sw
          exact snd_par2 c (of_decide_eq_true o1) (of_decide_eq_true o2) (of_decide_eq_true o3) (of_decide_eq_true o4) (of_decide_eq_true o5) sw (sndEs _ sc fb _ o7 W X c.c).1
        · simp only [Bool.and_eq_true] at ok
          obtain ⟨⟨⟨⟨⟨⟨⟨⟨⟨⟨o1, o2⟩, o3⟩, n1⟩, n2⟩, n3⟩, o4⟩, o5⟩, o8⟩, o6⟩, o7⟩ := ok
          rw [of_decide_eq_true o6] at sw
          exact snd_par3 c (of_decide_eq_true o1) (of_decide_eq_true o2) (of_decide_eq_true o3) (of_decide_eq_true n1) (of_decide_eq_true n2) (of_decide_eq_true n3) (of_decide_eq_true o4) (of_decide_eq_true o5) (of_decide_eq_true o8) sw (sndEs _ sc fb _ o7 W X c.c).1
        · cases ok
      · cases ok
    · rename_i v nt
      simp only [Bool.and_eq_true] at ok
      refine snd_asg rfl (sndE e sc fb _ ok.2 W X c.c).1 (snd_lv c.c _ _ ok.1) swaps_tup (stores_no (isTupE_of nt) _)
  · simp only [Bool.and_eq_true] at ok
    exact snd_asg rfl (sndE e sc fb _ ok.2 W X c.c).1 (snd_lv c.c _ _ ok.1) swaps_sub (stores_noT (fun _ _ _ z => by cases z) (fun _ _ z => by cases z) _)
  · cases ok
mutual
theorem sndS : ∀ (s : S) (st : Stmt), chkS T N sc fb s st = true → ∀ (W : WX) (X : Cx), CtxS T G xa cal k N sc fb W X → PS X st (rSt G xa cal s W)
  | .exp e, st, ok, W, X, c => by
    simp only [chkS] at ok
    split at ok
    · simp only [Bool.and_eq_true] at ok
      exact snd_exp (sndE e sc fb _ ok.2 W X c.c).1 (swaps_no ok.1 _ _ _)
    · cases ok
  | .asg t e, st, ok, W, X, c => by
    simp only [chkS] at ok
    split at ok
    · exact snd_assign c ok
    · cases ok
  | .aug i op e, st, ok, W, X, c => by
    simp only [chkS] at ok
    split at ok
    · simp only [Bool.and_eq_true] at ok
      obtain ⟨⟨⟨o1, o2⟩, o3⟩, o4⟩ := ok
      cases (of_decide_eq_true o1)
      exact snd_aug c (of_decide_eq_true o2) o3 (sndE e sc fb _ o4 W X c.c).1
    · cases ok
  | .augs _ _ _ _, st, ok, W, X, c => by simp [chkS] at ok
  | .iff cc a b, st, ok, W, X, c => by
    simp only [chkS] at ok
    split at ok
    · simp only [Bool.and_eq_true] at ok
      exact snd_iff (sndE cc sc fb _ ok.1.1 W X c.c).2 (sndSs a _ ok.1.2 W X c) (sndSs b _ ok.2 W X c)
    · cases ok
  | .whl cc b, st, ok, W, X, c => by
    simp only [chkS] at ok
    split at ok
    · simp only [Bool.and_eq_true] at ok
      exact snd_whl c (sndE cc sc fb _ ok.1 W X c.c).2 (sndSs b _ ok.2 W X c)
    · cases ok
  | .for_ tg it b, st, ok, W, X, c => by
    simp only [chkS] at ok
    split at ok
    · simp only [Bool.and_eq_true] at ok
      exact snd_for c ok.1.1.1 (sndI it sc fb _ _ ok.1.1.2 W X c.c) (snd_tg c.c tg _ ok.1.2) (sndSs b _ ok.2 W X c)
    · cases ok
  | .ret e, st, ok, W, X, c => by
    simp only [chkS] at ok
    split at ok
    · exact snd_ret (sndE e sc fb _ ok W X c.c).1
    · cases ok
  | .retn, st, ok, W, X, c => by
    simp only [chkS] at ok
    split at ok
    · exact snd_retn
    · cases ok
  | .raise e, st, ok, W, X, c => by
    simp only [chkS] at ok
    split at ok
    · simp only [Bool.and_eq_true] at ok
      exact snd_raise c.c (of_decide_eq_true ok.1.1) ok.1.2 ok.2
    · cases ok
  | .tr b hs, st, ok, W, X, c => by
    simp only [chkS] at ok
    split at ok
    · simp only [Bool.and_eq_true, Bool.not_eq_true'] at ok
      exact snd_tr c ok.1.1 ok.1.2 fun W' X' c' => sndSs b _ ok.2 W' X' c'
    · cases ok
  | .pass, st, ok, W, X, c => by
    simp only [chkS] at ok
    split at ok
    · exact snd_pass
    · cases ok
  | .cont, st, ok, W, X, c => by
    simp only [chkS] at ok
    split at ok
    · exact snd_cont
    · cases ok
  | .brk, st, ok, W, X, c => by
    simp only [chkS] at ok
    split at ok
    · exact snd_brk
    · cases ok
theorem sndSs : ∀ (ss : Ss) (sts : List Stmt), chkSs T N sc fb ss sts = true → ∀ (W : WX) (X : Cx), CtxS T G xa cal k N sc fb W X → PSs X sts (rSs G xa cal ss W)
  | .nil, sts, ok, W, X, c => by
    simp only [chkSs] at ok
    cases sts with
    | nil => exact snd_snil
    | cons _ _ => cases ok
  | .cons s ss, sts, ok, W, X, c => by
    simp only [chkSs] at ok
    split at ok
    · simp only [Bool.and_eq_true] at ok
      exact snd_scons (sndS s _ ok.1 W X c) (sndSs ss _ ok.2 W X c)
    · cases ok
end
end
end PL
end
section
set_option Elab.async false
set_option linter.all false
set_option maxRecDepth 100000
set_option maxHeartbeats 1000000
/-! PLS19: defs. -/
namespace PL
open PySem PySem.Spec PyProof.Rows L2
/-! ### values across a call -/
section
variable {G : Ge} {F F' : Addr → Prop} {ι ι' : List Addr} {H H' : Hp} {h h' : Hpp}
mutual
theorem VR.enter (f : ∀ a, F' a → F a ∨ a ∈ ι) : ∀ {d : D} {v : V}, pureD d = true → VR G F ι H d v → VR G F' [] H d v
  | .non, _, _, r => r
  | .bl _, _, _, r => r
  | .int _, _, _, r => r
  | .str _, _, _, r => r
  | .tup xs, v, p, r => by
    obtain ⟨a, us, e, q, t⟩ := r
    exact ⟨a, us, e, q, VRs.enter f (by simpa [pureD] using p) t⟩
  | .fl xs, v, p, r => by
    obtain ⟨a, us, e, ⟨q, n, nf⟩, t⟩ := r
    refine ⟨a, us, e, ⟨q, by simp, fun z => ?_⟩, VRs.enter f (by simpa [pureD] using p) t⟩
    rcases f a z with z | z
    · exact nf z
    · exact n z
  | .ref n, v, p, r => by simp [pureD] at p
  | .fn _, _, _, r => r
  | .sc is, v, p, r => by
    obtain ⟨a, e, q⟩ := r
    refine ⟨a, e, ?_⟩
    rcases q with q | ⟨q, n, nf⟩
    · exact .inl q
    · refine .inr ⟨q, by simp, fun z => ?_⟩
      rcases f a z with z | z
      · exact nf z
      · exact n z
theorem VRs.enter (f : ∀ a, F' a → F a ∨ a ∈ ι) : ∀ {d : List D} {v : List V}, pureL d = true → VRs G F ι H d v → VRs G F' [] H d v
  | [], _, _, r => r
  | x :: xs, us, p, r => by
    obtain ⟨v, t, e, r1, r2⟩ := r
    rw [pureL, Bool.and_eq_true] at p
    exact ⟨v, t, e, VR.enter f p.1 r1, VRs.enter f p.2 r2⟩
end
/-- with the rows of the cells as values -/
theorem VR.enterR {d : D} {v : V} (r : Rel G F ι H h) (p : pureD (res d h) = true) (rv : VR G F ι H d v) : VR G F [] H (res d h) v := by
  cases d with
  | ref n =>
    obtain ⟨a, rfl, i⟩ := rv
    unfold res at p ⊢
    simp only at p ⊢
    split at p
    · rename_i xs hn
      obtain ⟨vs, t, w⟩ := r.cells n a _ i hn
      exact ⟨a, vs, rfl, ⟨t, by simp, r.own a (List.mem_of_getElem? i)⟩, VRs.enter (fun _ z => .inl z) (by simpa [pureD] using p) w⟩
    · simp [pureD] at p
  | _ => exact VR.enter (fun _ z => .inl z) p rv
theorem VRs.enterR : ∀ {ds : List D} {vs : List V}, Rel G F ι H h → pureL (ds.map fun d => res d h) = true → VRs G F ι H ds vs → VRs G F [] H (ds.map fun d => res d h) vs
  | [], _, r, p, rv => rv
  | d :: ds, _, r, p, rv => by
    obtain ⟨v, t, e, r1, r2⟩ := rv
    rw [List.map_cons, pureL, Bool.and_eq_true] at p
    exact ⟨v, t, e, VR.enterR r p.1 r1, VRs.enterR r p.2 r2⟩
theorem res_pure {d : D} (p : pureD d = true) : res d h = d := by
  cases d <;> first | rfl | simp [pureD] at p
theorem resL_pure : ∀ {ds : List D}, pureL ds = true → (ds.map fun d => res d h) = ds
  | [], _ => rfl
  | d :: ds, p => by
    rw [pureL, Bool.and_eq_true] at p
    rw [List.map_cons, res_pure p.1, resL_pure p.2]
mutual
theorem VR.leaveP (f : ∀ a, F a ∨ a ∈ ι → F' a) : ∀ {d : D} {v : V}, pureD d = true → VR G F' ι' H d v → VR G F ι H d v
  | .non, _, _, r => r
  | .bl _, _, _, r => r
  | .int _, _, _, r => r
  | .str _, _, _, r => r
  | .tup xs, v, p, r => by
    obtain ⟨a, us, e, q, t⟩ := r
    exact ⟨a, us, e, q, VRs.leaveP f (by simpa [pureD] using p) t⟩
  | .fl xs, v, p, r => by
    obtain ⟨a, us, e, ⟨q, n, nf⟩, t⟩ := r
    exact ⟨a, us, e, ⟨q, fun z => nf (f a (.inr z)), fun z => nf (f a (.inl z))⟩, VRs.leaveP f (by simpa [pureD] using p) t⟩
  | .ref n, v, p, r => by simp [pureD] at p
  | .fn _, _, _, r => r
  | .sc is, v, p, r => by
    obtain ⟨a, e, q⟩ := r
    refine ⟨a, e, ?_⟩
    rcases q with q | ⟨q, n, nf⟩
    · exact .inl q
    · exact .inr ⟨q, fun z => nf (f a (.inr z)), fun z => nf (f a (.inl z))⟩
theorem VRs.leaveP (f : ∀ a, F a ∨ a ∈ ι → F' a) : ∀ {d : List D} {v : List V}, pureL d = true → VRs G F' ι' H d v → VRs G F ι H d v
  | [], _, _, r => r
  | x :: xs, us, p, r => by
    obtain ⟨v, t, e, r1, r2⟩ := r
    rw [pureL, Bool.and_eq_true] at p
    exact ⟨v, t, e, VR.leaveP f p.1 r1, VRs.leaveP f p.2 r2⟩
end
/-- the result of a pure def: its new lists become values -/
theorem frz_pureF (r : Rel G F' ι' H h) (f : ∀ a, F a ∨ a ∈ ι → F' a) (hn : ∀ a ∈ ι', a ∉ ι ∧ ¬ F a) : ∀ (n : Nat),
    (∀ (d : D) (v : V), pureD (frz 0 h n d) = true → VR G F' ι' H d v → VR G F ι H (frz 0 h n d) v) ∧ (∀ (ds : List D) (vs : List V), pureL (frzL 0 h n ds) = true → VRs G F' ι' H ds vs → VRs G F ι H (frzL 0 h n ds) vs) := by
  intro n
  induction n with
  | zero =>
    have k1 : ∀ (d : D) (v : V), pureD (frz 0 h 0 d) = true → VR G F' ι' H d v → VR G F ι H (frz 0 h 0 d) v := fun d v p rv => by
      rw [frz] at p ⊢
      exact VR.leaveP f p rv
    refine ⟨k1, fun ds => ?_⟩
    induction ds with
    | nil => intro vs _ rv; rw [frzL]; exact rv
    | cons x xs ih =>
      intro vs p rv
      obtain ⟨v, t, e, r1, r2⟩ := rv
      rw [frzL, pureL, Bool.and_eq_true] at p
      rw [frzL]
      exact ⟨v, t, e, k1 x v p.1 r1, ih t p.2 r2⟩
  | succ n ihn =>
    have k1 : ∀ (d : D) (v : V), pureD (frz 0 h (n + 1) d) = true → VR G F' ι' H d v → VR G F ι H (frz 0 h (n + 1) d) v := fun d v p rv => by
      cases d with
      | tup xs =>
        rw [frz] at p ⊢
        obtain ⟨a, us, e, q, t⟩ := rv
        exact ⟨a, us, e, q, ihn.2 xs us (by simpa [pureD] using p) t⟩
      | fl xs =>
        rw [frz] at p ⊢
        obtain ⟨a, us, e, ⟨q, n', nf⟩, t⟩ := rv
        exact ⟨a, us, e, ⟨q, fun z => nf (f a (.inr z)), fun z => nf (f a (.inl z))⟩, ihn.2 xs us (by simpa [pureD] using p) t⟩
      | ref j =>
        rw [frz] at p ⊢
        rw [if_neg (Nat.not_lt_zero j)] at p ⊢
        obtain ⟨a, rfl, i⟩ := rv
        split at p
        · rename_i xs hj
          obtain ⟨vs, t, w⟩ := r.cells j a _ i hj
          have ha := hn a (List.mem_of_getElem? i)
          exact ⟨a, vs, rfl, ⟨t, ha.1, ha.2⟩, ihn.2 xs vs (by simpa [pureD] using p) w⟩
        · simp [pureD] at p
      | non => simp only [frz]; exact rv
      | bl _ => simp only [frz]; exact rv
      | int _ => simp only [frz]; exact rv
      | str _ => simp only [frz]; exact rv
      | fn _ => simp only [frz]; exact rv
      | sc _ => simp only [frz]; exact VR.leaveP f rfl rv
    refine ⟨k1, fun ds => ?_⟩
    induction ds with
    | nil => intro vs _ rv; rw [frzL]; exact rv
    | cons x xs ih =>
      intro vs p rv
      obtain ⟨v, t, e, r1, r2⟩ := rv
      rw [frzL, pureL, Bool.and_eq_true] at p
      rw [frzL]
      exact ⟨v, t, e, k1 x v p.1 r1, ih t p.2 r2⟩
/-- .. a result with no list -/
theorem frz_noL (h : Hpp) : ∀ (n : Nat),
    (∀ (d : D) (v : V), noL (frz 0 h n d) = true → VR G F' ι' H d v → VR G F ι H (frz 0 h n d) v) ∧ (∀ (ds : List D) (vs : List V), noLs (frzL 0 h n ds) = true → VRs G F' ι' H ds vs → VRs G F ι H (frzL 0 h n ds) vs) := by
  have base : (∀ (d : D) (v : V), noL d = true → VR G F' ι' H d v → VR G F ι H d v) := by
    intro d
    refine D.rec (motive_1 := fun d => ∀ v, noL d = true → VR G F' ι' H d v → VR G F ι H d v) (motive_2 := fun ds => ∀ vs, noLs ds = true → VRs G F' ι' H ds vs → VRs G F ι H ds vs) ?_ ?_ ?_ ?_ ?_ ?_ ?_ ?_ ?_ ?_ ?_ d
    · exact fun v _ r => r
    · exact fun _ v _ r => r
    · exact fun _ v _ r => r
    · exact fun _ v _ r => r
    · intro xs ih v p r
      obtain ⟨a, us, e, q, t⟩ := r
      exact ⟨a, us, e, q, ih us (by simpa [noL] using p) t⟩
    · intro xs ih v p r; simp [noL] at p
    · intro n v p r; simp [noL] at p
    · exact fun _ v _ r => r
    · intro is v p r; simp [noL] at p
    · exact fun vs _ r => r
    · intro x xs i1 i2 vs p r
      obtain ⟨v, t, e, r1, r2⟩ := r
      rw [noLs, Bool.and_eq_true] at p
      exact ⟨v, t, e, i1 v p.1 r1, i2 t p.2 r2⟩
  intro n
  induction n with
  | zero =>
    have k1 : ∀ (d : D) (v : V), noL (frz 0 h 0 d) = true → VR G F' ι' H d v → VR G F ι H (frz 0 h 0 d) v := fun d v p rv => by
      rw [frz] at p ⊢
      exact base d v p rv
    refine ⟨k1, fun ds => ?_⟩
    induction ds with
    | nil => intro vs _ rv; rw [frzL]; exact rv
    | cons x xs ih =>
      intro vs p rv
      obtain ⟨v, t, e, r1, r2⟩ := rv
      rw [frzL, noLs, Bool.and_eq_true] at p
      rw [frzL]
      exact ⟨v, t, e, k1 x v p.1 r1, ih t p.2 r2⟩
  | succ n ihn =>
    have k1 : ∀ (d : D) (v : V), noL (frz 0 h (n + 1) d) = true → VR G F' ι' H d v → VR G F ι H (frz 0 h (n + 1) d) v := fun d v p rv => by
      cases d with
      | tup xs =>
        rw [frz] at p ⊢
        obtain ⟨a, us, e, q, t⟩ := rv
        exact ⟨a, us, e, q, ihn.2 xs us (by simpa [noL] using p) t⟩
      | fl xs => rw [frz] at p; simp [noL] at p
      | ref j =>
        rw [frz, if_neg (Nat.not_lt_zero j)] at p
        split at p <;> simp [noL] at p
      | non => simp only [frz]; exact rv
      | bl _ => simp only [frz]; exact rv
      | int _ => simp only [frz]; exact rv
      | str _ => simp only [frz]; exact rv
      | fn _ => simp only [frz]; exact rv
      | sc _ => simp [frz, noL] at p
    refine ⟨k1, fun ds => ?_⟩
    induction ds with
    | nil => intro vs _ rv; rw [frzL]; exact rv
    | cons x xs ih =>
      intro vs p rv
      obtain ⟨v, t, e, r1, r2⟩ := rv
      rw [frzL, noLs, Bool.and_eq_true] at p
      rw [frzL]
      exact ⟨v, t, e, k1 x v p.1 r1, ih t p.2 r2⟩
/-- the caller's state behind a def that has left the cells as they are -/
theorem Rel.back0 (r : Rel G F ι H h) (g : Grow H [] H' ι') : Rel G F ι H' h ∧ Grow H ι H' ι := by
  have g' : Grow H ι H' ι := ⟨fun a o e _ => g.keep a o e (by simp), ⟨[], by simp⟩, fun _ z => .inl z⟩
  refine ⟨⟨r.len, r.nd, fun j a c e1 e2 => ?_, r.own, fun a z => ?_⟩, g'⟩
  · obtain ⟨o, q, _⟩ := r.cellsOk a (List.mem_of_getElem? e1)
    exact CR.mono g' r.cellsOk (fun _ z => .inl z) (by rw [g.keep a o q (by simp), q]) (r.cells j a c e1 e2)
  · obtain ⟨o, q⟩ := r.frn a z
    exact ⟨o, g.keep a o q (by simp)⟩
end
end PL
end
section
set_option Elab.async false
set_option linter.all false
set_option maxRecDepth 100000
set_option maxHeartbeats 1000000
/-! PLS20: every def keeps its promise. -/
namespace PL
open PySem PySem.Spec PyProof.Rows L2
/-- a def's written form -/
structure FI where
  name : Str
  qual : Str
  params : Arguments
  body : List Stmt
  scope : Scope
  N : List Str
def pNames : Arguments → Option (List Str)
  | ⟨[], args, none, [], [], none, []⟩ => some (args.map (·.arg))
  | _ => none
def nodupB : List Str → Bool
  | [] => true
  | x :: r => !(r.any fun y => decide (y = x)) && nodupB r
theorem nodupB_ok : ∀ {l : List Str}, nodupB l = true → l.Nodup
  | [], _ => .nil
  | x :: r, h => by
    rw [nodupB, Bool.and_eq_true, Bool.not_eq_true'] at h
    refine List.nodup_cons.mpr ⟨fun hx => ?_, nodupB_ok h.2⟩
    have h1 := h.1
    rw [List.any_eq_false] at h1
    exact h1 x hx (decide_eq_true rfl)
def FI.ps (i : FI) (fn : Fn) : List Str := i.N.take fn.np
def scC (N P : List Str) (sc : Scope) : Bool :=
  decide (sc.kind = .function) && !sc.isCoroutine && !sc.isGenerator && nodupB N && (P.all fun x => decide (sc.names.lookup x = some .local) || decide (sc.names.lookup x = some .cell)) && (sc.names.all fun y => decide (y.2 ≠ .free))
theorem scC_ok {N : List Str} {np : Nat} {sc : Scope} (h : scC N (N.take np) sc = true) (hl : np ≤ N.length) : FnScope N (N.take np) sc := by
  unfold scC at h
  simp only [Bool.and_eq_true, Bool.not_eq_true'] at h
  obtain ⟨⟨⟨⟨⟨h1, h2⟩, h3⟩, h4⟩, h5⟩, h6⟩ := h
  refine ⟨of_decide_eq_true h1, h2, h3, nodupB_ok h4, by rw [List.length_take, Nat.min_eq_left hl], fun x hx => ?_, fun y hy => ?_⟩
  · have := List.all_eq_true.mp h5 x hx
    rw [Bool.or_eq_true] at this
    rcases this with q | q
    · exact .inl (of_decide_eq_true q)
    · exact .inr (of_decide_eq_true q)
  · exact of_decide_eq_true (List.all_eq_true.mp h6 y hy)
/-- the def at f is this term -/
def fiC (T : Tab) (fn : Fn) (i : FI) : Bool :=
  decide (fn.np ≤ 6) && decide (fn.np ≤ i.N.length) && decide (fn.nl = i.N.length) && decide (fn.mode ≠ 1) && decide (pNames i.params = some (i.N.take fn.np)) && scC i.N (i.N.take fn.np) i.scope && chkSs T i.N i.scope (fun _ => true) fn.body i.body
def FI.bd (i : FI) (np : Nat) : Prop := ∀ (kV doc pm : Value) (an : Option Addr) (cdv ct : Value) (us : List Value), us.length = (i.N.take np).length → bindArgs (PySem.W.fnOf i.name i.qual i.params i.body i.scope .none kV doc pm an cdv ct) ⟨us, []⟩ = pure ((i.N.take np).zip us)
/-- all that is known of the program -/
structure PF (T : Tab) (fns : List Fn) (fis : List FI) (G : Ge) (xa : Nat → Addr) (mg : Str → Option Value) : Prop where
  nf : G.nf = T.fname.length
  nx : G.nx = T.xname.length
  lf : fns.length = T.fname.length
  li : fis.length = T.fname.length
  fnm : ∀ (f : Nat) (x : Str), T.fname[f]? = some x → mg x = some (.ref (G.fa f))
  fun_ : ∀ (f : Nat) (i : FI), fis[f]? = some i → ∃ fd, FunD G.K i.name i.qual i.params i.body i.scope [] [] (G.fa f) fd
  chk : ∀ (f : Nat) (i : FI) (fn : Fn), fis[f]? = some i → fns[f]? = some fn → fiC T fn i = true
  bd : ∀ (f : Nat) (i : FI) (fn : Fn), fis[f]? = some i → fns[f]? = some fn → i.bd fn.np
  exc : ∀ (e : Nat) (x : Str), T.xname[e]? = some x → mg x = some (.ref (xa e)) ∧ PySem.W.keepIn G.K (.ref (xa e)) = true ∧ (PySem.W.subIn G.K (.ref (xa e)) (.type "BaseException") = some true ∧ PySem.W.typeIn G.K (.ref (xa e)) = some (.type "type")) ∧ ∃ bmB B newId initId, ExcBaseFacts B newId initId bmB ∧ PySem.W.excIn G.K (xa e) bmB newId = true
  exm : ∀ e j, e < G.nx → j < G.nx → PySem.W.exmOne G.K (.ref (xa e)) (.ref (xa j)) = some (decide (e = j))
  free : ∀ x ∈ bnames, mg x = none
  cst : ∀ (x : Str) (d : D), T.cst.lookup x = some d → ∃ v u, mg x = some u ∧ RelV v u ∧ KC G.K d v
section
variable {T : Tab} {fns : List Fn} {fis : List FI} {G : Ge} {xa : Nat → Addr} {mg : Str → Option Value} {P : Program} {w : World} {base : Heap}
theorem env_start {F : Addr → Prop} {ι : List Addr} {H : Hp} {ds : List D} {vs : List V} {fn : Fn} {N : List Str} (r : VRs G F ι H ds vs) (h1 : ds.length = fn.np) (h2 : fn.nl = N.length) (h3 : fn.np ≤ N.length) : EnvR G F ι H (env0 fn ds) (L2.start N vs) := by
  have hl := VRs.length r
  refine ⟨by simp [env0, L2.start, hl, h1, h2], fun i d q => ?_⟩
  unfold env0 at q
  unfold L2.start
  by_cases hi : i < ds.length
  · rw [List.getElem?_append_left (by simpa using hi), List.getElem?_map] at q
    cases e : ds[i]? with
    | none => rw [e] at q; cases q
    | some d' =>
      rw [e] at q; cases q
      obtain ⟨v, e2, rv⟩ := r.get e
      exact ⟨v, by rw [List.getElem?_append_left (by simp [hl]; exact hi), List.getElem?_map, e2]; rfl, rv⟩
  · rw [List.getElem?_append_right (by simpa using hi)] at q
    have := List.mem_of_getElem? q
    rw [List.mem_replicate] at this
    cases this.2
theorem prog_ok (pf : PF T fns fis G xa mg) : ∀ (k f : Nat) (i : FI) (fn : Fn), fis[f]? = some i → fns[f]? = some fn → ∀ fd, FunD G.K i.name i.qual i.params i.body i.scope [] [] (G.fa f) fd →
    FnOk P w G.K mg base (L2.CX P w) (k + 1) (G.fa f) fd (i.N.take fn.np) (spF G xa (callF fns k) f) ∧ Binds G.K fd (i.N.take fn.np) [] := by
  intro k
  induction k with
  | zero =>
    intro f i fn ei ef fd F
    have ck := pf.chk f i fn ei ef
    unfold fiC at ck
    simp only [Bool.and_eq_true] at ck
    obtain ⟨⟨⟨⟨⟨⟨c1, c2⟩, c3⟩, c4⟩, c5⟩, c6⟩, c7⟩ := ck
    have c2 := of_decide_eq_true c2
    refine ⟨F.ok (scC_ok c6 c2) (fun vs H Q E q => ?_) fun cdv A outer s H vs Q E hr q => ?_, F.bindsN (pf.bd f i fn ei ef)⟩
    · obtain ⟨F', ι, h, ds, r, rs, Pq⟩ := q; exact Pq.elim
    · obtain ⟨F', ι, h, ds, r, rs, Pq⟩ := q; exact Pq.elim
  | succ k ih =>
    intro f i fn ei ef fd F
    have ck := pf.chk f i fn ei ef
    unfold fiC at ck
    simp only [Bool.and_eq_true] at ck
    obtain ⟨⟨⟨⟨⟨⟨c1, c2⟩, c3⟩, c4⟩, c5⟩, c6⟩, c7⟩ := ck
    have c2 := of_decide_eq_true c2
    have c3 := of_decide_eq_true c3
    have c4 := of_decide_eq_true c4
    have hps : (i.N.take fn.np).length = fn.np := by rw [List.length_take, Nat.min_eq_left c2]
    have run : ∀ {ds : List D} {h : Hpp} {O : D → Hpp → Prop} {E : Nat → Hpp → Prop}, Post (callF fns (k + 1) f ds h) O E → Post (runFn (callF fns k) fn ds h) O E := fun {ds h O E} q => by
      simp only [callF, ef] at q
      exact q
    have lenD : ∀ {ds : List D} {h : Hpp} {O : D → Hpp → Prop} {E : Nat → Hpp → Prop}, Post (runFn (callF fns k) fn ds h) O E → ds.length = fn.np := fun {ds h O E} q => by
      unfold runFn at q
      split at q
      · assumption
      · exact q.elim
    refine ⟨F.ok (scC_ok c6 c2) (fun vs H Q E q => ?_) fun cdv A outer s H vs Q E hr q => ?_, F.bindsN (pf.bd f i fn ei ef)⟩
    · obtain ⟨F', ι, h, ds, r, rs, Pq⟩ := q
      rw [hps, VRs.length rs]
      exact lenD (run Pq)
    · obtain ⟨F', ι, h, ds, r, rs, Pq⟩ := q
      have Pq := run Pq
      have hd := lenD Pq
      have cx : CtxS T G xa (callF fns k) (k + 1) i.N i.scope (fun _ => true) (fun cls d _ H => E cls d H) (cxOf (L2.CX P w) P w G.K mg base i.N i.qual i.scope (G.fa f) cdv A outer s H E) := {
        c := {
          hK := rfl
          hN := rfl
          nd := (scC_ok c6 c2).nd
          sc := rfl
          fn := rfl
          calm := rfl
          room := hr
          takes := takes_of rfl rfl rfl rfl
          fnm := pf.fnm
          fns := fun f' hf' => by
            have ei' := List.getElem?_eq_getElem (show f' < fis.length by rw [pf.li]; exact hf')
            have ef' := List.getElem?_eq_getElem (show f' < fns.length by rw [pf.lf]; exact hf')
            obtain ⟨fd', F'⟩ := pf.fun_ f' _ ei'
            obtain ⟨q1, q2⟩ := ih f' _ _ ei' ef' fd' F'
            exact ⟨F'.kp, fd', _, q1, q2⟩
          nf := pf.nf
          nx := pf.nx
          exc := fun e x ex => by
            obtain ⟨q1, q2, ⟨q3, q4⟩, q5⟩ := pf.exc e x ex
            exact ⟨q1, q2, raises_own q3 q4, q5⟩
          exm := pf.exm
          free := pf.free
          cst := pf.cst }
        own := passes_of rfl
        stk := rfl
        fr := rfl
        kind := (scC_ok c6 c2).kind }
      refine ⟨rSs G xa (callF fns k) fn.body (fun cls d _ H => E cls d H), sndSs fn.body i.body c7 _ _ cx, ?_⟩
      unfold runFn at Pq
      rw [if_pos hd] at Pq
      split at Pq
      · -- pure
        split at Pq
        · rename_i m0 pu
          by_cases pd : pureL ds = true
          · -- nothing in cells
            have pu2 : (ds.map fun d => res d h) = ds := resL_pure pd
            rw [pu2] at Pq
            have rel0 : Rel G (fun a => F' a ∨ a ∈ ι) [] H [] := ⟨rfl, .nil, fun n a c e _ => by simp at e, fun a ha => by simp at ha, fun a z => by
              rcases z with z | z
              · exact r.frn a z
              · obtain ⟨o, q, _⟩ := r.cellsOk a z; exact ⟨o, q⟩⟩
            have rs0 : VRs G (fun a => F' a ∨ a ∈ ι) [] H ds vs := VRs.enter (fun _ z => z) pd rs
            refine ⟨_, [], [], env0 fn ds, rel0, env_start rs0 hd c3 c2, ?_⟩
            have news : ∀ {H' : Hp} {ι' : List Addr}, Grow H [] H' ι' → ∀ a ∈ ι', a ∉ ι ∧ ¬ F' a := fun {H' ι'} g a ha => by
              rcases g.new a ha with z | z
              · simp at z
              · refine ⟨fun y => ?_, fun y => ?_⟩
                · obtain ⟨o, q, _⟩ := r.cellsOk a y; rw [z] at q; cases q
                · obtain ⟨o, q⟩ := r.frn a y; rw [z] at q; cases q
            cases eo : exs (callF fns k) fn.body (env0 fn ds) [] with
            | rt d h' =>
              rw [eo] at Pq
              unfold fin0 at Pq
              simp only [pd, Bool.true_and] at Pq
              split at Pq
              · rename_i hp
                rw [Bool.or_eq_true] at hp
                intro v H' ι' g r' rv
                obtain ⟨rb, gb⟩ := r.back0 g
                refine Pq v H' ι gb rb ?_
                rcases hp with hp | hp
                · exact (frz_pureF r' (fun a z => z) (news g) 9).1 d v hp rv
                · exact (frz_noL h' 9).1 d v hp rv
              · exact Pq.elim
            | nx ρ' h' =>
              rw [eo] at Pq
              intro σ' H' ι' g r' _
              obtain ⟨rb, gb⟩ := r.back0 g
              exact (show okp G F' ι H Q .non h from Pq) .non H' ι gb rb rfl
            | er c ρ' h' =>
              rw [eo] at Pq
              intro hc H' ι' g r' dx _
              obtain ⟨rb, gb⟩ := r.back0 g
              exact (show erk G F' xa ι H E c h from Pq) hc H' ι gb rb dx
            | bk _ _ => rw [eo] at Pq; exact Pq.elim
            | ct _ _ => rw [eo] at Pq; exact Pq.elim
            | no => rw [eo] at Pq; exact Pq.elim
          · -- rows of cells as values; the result has none
            have rel0 : Rel G F' [] H [] := ⟨rfl, .nil, fun n a c e _ => by simp at e, fun a ha => by simp at ha, r.frn⟩
            have rs0 : VRs G F' [] H (ds.map fun d => res d h) vs := VRs.enterR r pu rs
            refine ⟨_, [], [], env0 fn _, rel0, env_start rs0 (by rw [List.length_map]; exact hd) c3 c2, ?_⟩
            cases eo : exs (callF fns k) fn.body (env0 fn (ds.map fun d => res d h)) [] with
            | rt d h' =>
              rw [eo] at Pq
              unfold fin0 at Pq
              simp only [pd, Bool.false_and, Bool.false_or] at Pq
              split at Pq
              · rename_i hp
                intro v H' ι' g r' rv
                obtain ⟨rb, gb⟩ := r.back0 g
                exact Pq v H' ι gb rb ((frz_noL h' 9).1 d v (by simpa using hp) rv)
              · exact Pq.elim
            | nx ρ' h' =>
              rw [eo] at Pq
              intro σ' H' ι' g r' _
              obtain ⟨rb, gb⟩ := r.back0 g
              exact (show okp G F' ι H Q .non h from Pq) .non H' ι gb rb rfl
            | er c ρ' h' =>
              rw [eo] at Pq
              intro hc H' ι' g r' dx _
              obtain ⟨rb, gb⟩ := r.back0 g
              exact (show erk G F' xa ι H E c h from Pq) hc H' ι gb rb dx
            | bk _ _ => rw [eo] at Pq; exact Pq.elim
            | ct _ _ => rw [eo] at Pq; exact Pq.elim
            | no => rw [eo] at Pq; exact Pq.elim
        · exact Pq.elim
      · rename_i m1; exact absurd m1 c4
      · -- open
        refine ⟨F', ι, h, env0 fn ds, r, env_start rs hd c3 c2, ?_⟩
        cases eo : exs (callF fns k) fn.body (env0 fn ds) h with
        | rt d h' => rw [eo] at Pq; exact Pq
        | nx ρ' h' =>
          rw [eo] at Pq
          intro σ' H' ι' g r' _
          exact (show okp G F' ι H Q .non h' from Pq) .non H' ι' g r' rfl
        | er c ρ' h' =>
          rw [eo] at Pq
          intro hc H' ι' g r' dx _
          exact (show erk G F' xa ι H E c h' from Pq) hc H' ι' g r' dx
        | bk _ _ => rw [eo] at Pq; exact Pq.elim
        | ct _ _ => rw [eo] at Pq; exact Pq.elim
        | no => rw [eo] at Pq; exact Pq.elim
end
end PL
end
section
set_option Elab.async false
set_option linter.all false
set_option maxRecDepth 100000
set_option maxHeartbeats 1000000
/-! PLE: the head's facts; the end of a law. -/
namespace PL
open PySem PySem.Spec PyProof.Rows L2
def dvOf : D → Option He.Dv
  | .non => some .non
  | .bl b => some (.bl b)
  | .int i => some (.int i)
  | .str s => some (.str s)
  | _ => none
def dvsOf : List D → Option (List He.Dv)
  | [] => some []
  | d :: r => match dvOf d, dvsOf r with
    | some x, some xs => some (x :: xs)
    | _, _ => none
def cstB (K : PySem.W.Frag) (x : Str) : D → Bool
  | .int i => (He.Fa.int x i).ok K
  | .str s => (He.Fa.str x s).ok K
  | .tup ds => (He.Fa.glo x).ok K && (match dvsOf ds with
    | some vs => He.tupB K x vs
    | none => false)
  | _ => false
theorem dvs_kc {K : PySem.W.Frag} : ∀ {ds : List D} {vs : List He.Dv}, dvsOf ds = some vs → KCs K ds (vs.map (He.Dv.v K))
  | [], vs, h => by cases h; rfl
  | d :: r, vs, h => by
    simp only [dvsOf] at h
    split at h
    · rename_i x xs e1 e2
      cases h
      refine ⟨x.v K, xs.map (He.Dv.v K), rfl, ?_, dvs_kc e2⟩
      cases d <;> cases e1 <;> rfl
    · cases h
theorem cstB_ok {K : PySem.W.Frag} {h : Heap} {mg : Str → Option Value} (X : K.In h) (Gm : h.Ns mainGlobals mg) {x : Str} {d : D} (c : cstB K x d = true) : ∃ v u, mg x = some u ∧ RelV v u ∧ KC K d v := by
  unfold cstB at c
  split at c
  · rename_i i
    obtain ⟨t, e⟩ := He.int_ok X Gm c
    exact ⟨.int i, _, e, ⟨t, rfl⟩, rfl⟩
  · rename_i s
    obtain ⟨t, e⟩ := He.str_ok X Gm c
    exact ⟨.str s, _, e, ⟨t, rfl⟩, rfl⟩
  · rename_i ds
    rw [Bool.and_eq_true] at c
    split at c
    · rename_i vs e
      have q := He.tupB_ok c.2 (fun _ => none)
      rcases q with (q | ⟨o, q⟩) | q
      · cases q
      · cases q
      · exact ⟨.ref (He.ga K x), _, He.glo_ok X Gm c.1, rfl, _, _, rfl, q, dvs_kc e⟩
    · cases c.2
  · cases c
abbrev AlY : Type := He.AlD × Bool
def obsY (n : Nat) (fa : List He.Fa) (fn : List He.DefD) (ex : PySem.W.Frag → Bool) (g : Addr → Option Obj) : AlY := (He.obsD fa fn (He.frG g (He.asD g n)), ex (He.frG g (He.asD g n)))
def hookY (n : Nat) (fa : List He.Fa) (fn : List He.DefD) (ex : PySem.W.Frag → Bool) : PySem.W.Hook where
  α := AlY
  obs := fun s => obsY n fa fn ex s.heap.get?
  val := fun _ => (He.valD fn, true)
  says := fun _ h => ∃ K : PySem.W.Frag, K.In h ∧ He.SaysD fa fn K ∧ ex K = true
  of := fun _ _ e => ⟨_, He.frG_in, congrArg (fun z : AlY => z.1) e, congrArg (fun z : AlY => z.2) e⟩
  keeps := fun _ _ _ ⟨K, hK, c⟩ k => ⟨K, PySem.W.Frag.In.keeps hK k, c⟩
theorem obsY_eq {n : Nat} {fa : List He.Fa} {fn : List He.DefD} {ex : PySem.W.Frag → Bool} {g : Addr → Option Obj} {s : Shared} (h : ∀ a, g a = s.heap.get? a) : obsY n fa fn ex g = (hookY n fa fn ex).obs s := by
  have e : g = s.heap.get? := funext h
  rw [e] <;> rfl
/-! ### the facts, from the names -/
def exPairs (xs : List Str) : List He.Fa := xs.flatMap fun x => xs.map fun y => He.Fa.exm x y (decide (x = y))
def faOf (T : Tab) : List He.Fa := T.fname.map He.Fa.glo ++ (T.xname.map He.Fa.glo ++ (T.xname.map He.Fa.exc ++ (exPairs T.xname ++ bnames.map He.Fa.free)))
def dOf (x : Str) (i : FI) : He.DefD := ⟨(x, none), i.name, i.qual, i.params, i.body, i.scope, [], []⟩
def fnOf (T : Tab) (fis : List FI) : List He.DefD := (T.fname.zip fis).map fun p => dOf p.1 p.2
def exOf (T : Tab) (K : PySem.W.Frag) : Bool := T.cst.all fun p => cstB K p.1 p.2
def geOf (T : Tab) (K : PySem.W.Frag) : Ge := ⟨K, fun f => He.ga K (T.fname.getD f ""), T.fname.length, T.xname.length⟩
def xaOf (T : Tab) (K : PySem.W.Frag) : Nat → Addr := fun e => He.ga K (T.xname.getD e "")
def chkAll (T : Tab) : List Fn → List FI → Bool
  | [], is => is.isEmpty
  | fn :: fs, is => match is with
    | i :: r => fiC T fn i && chkAll T fs r
    | [] => false
def BdAll : List Fn → List FI → Prop
  | [], _ => True
  | fn :: fs, is => match is with
    | i :: r => i.bd fn.np ∧ BdAll fs r
    | [] => True
theorem chkAll_get {T : Tab} : ∀ {fs : List Fn} {is : List FI} {f : Nat} {fn : Fn} {i : FI}, chkAll T fs is = true → is[f]? = some i → fs[f]? = some fn → fiC T fn i = true
  | [], _, _, _, _, _, _, e => by simp at e
  | fn :: fs, [], _, _, _, h, _, _ => by simp [chkAll] at h
  | fn :: fs, i :: is, 0, _, _, h, e1, e2 => by
    simp only [chkAll, Bool.and_eq_true] at h
    simp at e1 e2; subst e1 e2; exact h.1
  | fn :: fs, i :: is, f + 1, _, _, h, e1, e2 => by
    simp only [chkAll, Bool.and_eq_true] at h
    exact chkAll_get h.2 (by simpa using e1) (by simpa using e2)
theorem BdAll_get : ∀ {fs : List Fn} {is : List FI} {f : Nat} {fn : Fn} {i : FI}, BdAll fs is → is[f]? = some i → fs[f]? = some fn → i.bd fn.np
  | [], _, _, _, _, _, _, e => by simp at e
  | fn :: fs, [], _, _, _, h, e, _ => by simp at e
  | fn :: fs, i :: is, 0, _, _, h, e1, e2 => by
    simp at e1 e2; subst e1 e2; exact h.1
  | fn :: fs, i :: is, f + 1, _, _, h, e1, e2 => BdAll_get h.2 (by simpa using e1) (by simpa using e2)
theorem pf_of {T : Tab} {fns : List Fn} {fis : List FI} {K : PySem.W.Frag} {h : Heap} {mg : Str → Option Value} (X : K.In h) (Gm : h.Ns mainGlobals mg) (c : He.SaysD (faOf T) (fnOf T fis) K) (ex : exOf T K = true)
    (l1 : fns.length = T.fname.length) (l2 : fis.length = T.fname.length) (nx : nodupB T.xname = true) (ck : chkAll T fns fis = true) (bd : BdAll fns fis) : PF T fns fis (geOf T K) (xaOf T K) mg where
  nf := rfl
  nx := rfl
  lf := l1
  li := l2
  fnm := fun f x e => by
    have m : He.Fa.glo x ∈ faOf T := List.mem_append_left _ (List.mem_map_of_mem (List.mem_of_getElem? e))
    have q := He.glo_ok X Gm (c.facts m)
    rw [q]
    show some (Value.ref (He.ga K x)) = some (Value.ref (He.ga K (T.fname.getD f "")))
    rw [List.getD_eq_getElem?_getD, e]; rfl
  fun_ := fun f i e => by
    have hf : f < T.fname.length := by rw [← l2]; exact (List.getElem?_eq_some_iff.mp e).1
    have ef := List.getElem?_eq_getElem hf
    have m : dOf T.fname[f] i ∈ fnOf T fis := by
      refine List.mem_map.mpr ⟨(T.fname[f], i), ?_, rfl⟩
      refine List.mem_of_getElem? (i := f) ?_
      rw [List.getElem?_zip_eq_some]
      exact ⟨ef, e⟩
    obtain ⟨fd, q⟩ := c.defs m
    refine ⟨fd, ?_⟩
    have ea : He.fAd K (dOf T.fname[f] i).at_ = (geOf T K).fa f := by
      show He.ga K T.fname[f] = He.ga K (T.fname.getD f "")
      rw [List.getD_eq_getElem?_getD, ef]; rfl
    rw [ea] at q
    exact q
  chk := fun f i fn e1 e2 => chkAll_get ck e1 e2
  bd := fun f i fn e1 e2 => BdAll_get bd e1 e2
  exc := fun e x ex => by
    have mx := List.mem_of_getElem? ex
    have m : He.Fa.glo x ∈ faOf T := List.mem_append_right _ (List.mem_append_left _ (List.mem_map_of_mem mx))
    have m2 : He.Fa.exc x ∈ faOf T := List.mem_append_right _ (List.mem_append_right _ (List.mem_append_left _ (List.mem_map_of_mem mx)))
    have ea : xaOf T K e = He.ga K x := by
      unfold xaOf
      rw [List.getD_eq_getElem?_getD, ex]; rfl
    obtain ⟨q1, q2, q3, q4⟩ := He.exc_ok (c.facts m2)
    rw [ea]
    exact ⟨He.glo_ok X Gm (c.facts m), q2, ⟨q3, q4⟩, _, _, _, _, PySem.F.excBase_ValueError, q1⟩
  exm := fun e j he hj => by
    have he : e < T.xname.length := he
    have hj : j < T.xname.length := hj
    have e1 := List.getElem?_eq_getElem he
    have e2 := List.getElem?_eq_getElem hj
    have m : He.Fa.exm T.xname[e] T.xname[j] (decide (T.xname[e] = T.xname[j])) ∈ faOf T :=
      List.mem_append_right _ (List.mem_append_right _ (List.mem_append_right _ (List.mem_append_left _ (List.mem_flatMap.mpr ⟨_, List.mem_of_getElem? e1, List.mem_map_of_mem (List.mem_of_getElem? e2)⟩))))
    have q := He.exm_ok (c.facts m)
    have ea : xaOf T K e = He.ga K T.xname[e] := by
      unfold xaOf
      rw [List.getD_eq_getElem?_getD, e1]; rfl
    have eb : xaOf T K j = He.ga K T.xname[j] := by
      unfold xaOf
      rw [List.getD_eq_getElem?_getD, e2]; rfl
    rw [ea, eb]
    refine q.trans ?_
    congr 1
    have nd := nodupB_ok nx
    by_cases h : e = j
    · subst h; simp
    · rw [decide_eq_false h, decide_eq_false (fun z => h ((List.getElem_inj nd).mp z))]
  free := fun x hx => He.free_ok X Gm (c.facts (List.mem_append_right _ (List.mem_append_right _ (List.mem_append_right _ (List.mem_append_right _ (List.mem_map_of_mem hx))))))
  cst := fun x d e => by
    have key : ∀ {l : List (Str × D)}, (l.all fun p => cstB K p.1 p.2) = true → l.lookup x = some d → cstB K x d = true := fun {l} => by
      induction l with
      | nil => intro _ e; simp at e
      | cons p r ih =>
        intro ha e
        rw [List.all_cons, Bool.and_eq_true] at ha
        obtain ⟨y, d'⟩ := p
        rw [List.lookup_cons] at e
        split at e
        · rename_i hb
          cases e
          have : x = y := by simpa using hb
          subst this
          exact ha.1
        · exact ih ha.2 e
    exact cstB_ok X Gm (key ex e)
/-- the law's promise from what the evaluator tells -/
theorem law_sp {T : Tab} {fns : List Fn} {K : PySem.W.Frag} {k f : Nat} (hev : ∀ is : List Int, is.length ≤ 63 → ∃ h, callF fns k f [.sc is] [] = .ok (.bl true) h) {H : Hp} {a : Addr} {ns : List Int} (hl : ns.length ≤ 63) (hS : SqL K H a (ns.map V.int)) :
    spF (geOf T K) (xaOf T K) (callF fns k) f [.ref a] H (fun v _ => v = .bl true) fun _ _ _ => False := by
  obtain ⟨h', e⟩ := hev ns hl
  refine ⟨fun _ => False, [], [], [.sc ns], ⟨rfl, .nil, fun n a c e _ => by simp at e, fun a ha => by simp at ha, fun a z => z.elim⟩, ⟨.ref a, [], rfl, ⟨a, rfl, ?_⟩, rfl⟩, ?_⟩
  · rcases hS with q | q
    · exact .inr ⟨q, by simp, fun z => z⟩
    · exact .inl q
  · rw [e]
    exact fun v H' ι' g r s => s
/-- nothing is let out -/
abbrev CXN : CXT := fun _ _ _ _ _ _ => False
theorem fn_close {P : Program} {w : World} {K : PySem.W.Frag} {mg : Str → Option Value} {base : Heap} {k : Nat} {f : Addr} {fd : FuncData} {ps : List Str} {sp : Sp} (F : FnOk P w K mg base (L2.CX P w) k f fd ps sp) :
    FnOk P w K mg base CXN k f fd ps (fun vs H Q _ => sp vs H Q fun _ _ _ => False) where
  len := fun vs H Q _ h => F.len vs H Q _ h
  run := fun A outer s H args us vs Q E hr e b r h => codeAny_mono (F.run A outer s H args us vs Q (fun _ _ _ => False) hr e b r h) fun r s' q => by
    cases r with
    | ok a => cases a <;> exact q
    | error e =>
      obtain ⟨_, _, _, _, _, _, _, _, _, _, _, _, z⟩ := (show L2.CX P w outer H s (fun _ _ _ => False) e s' from q)
      exact z
end PL
end
section
set_option Elab.async false
set_option linter.all false
set_option maxRecDepth 100000
/-! PLM: to evaluate by simp; loops stand as they are. -/
namespace PL
theorem whileL_eq (c : Env → Hpp → R Bool) (b : Env → Hpp → O) (ρ : Env) (h : Hpp) : whileL c b ρ h = match c ρ h with
    | .ok true h1 => match b ρ h1 with
      | .nx ρ' h' => whileL c b ρ' h'
      | .ct ρ' h' => whileL c b ρ' h'
      | .bk ρ' h' => .nx ρ' h'
      | .no => .no
      | .rt d h' => .rt d h'
      | .er x ρ' h' => .er x ρ' h'
    | .ok false h1 => .nx ρ h1
    | .er x h1 => .er x ρ h1
    | .no => .no := by
  unfold whileL
  rw [whileO.eq_def]
  cases c ρ h with
  | ok k h1 =>
    cases k with
    | true => simp only; cases b ρ h1 <;> rfl
    | false => rfl
  | er x h1 => rfl
  | no => rfl
theorem callF_some {fns : List Fn} {f : Nat} {fn : Fn} (k : Nat) (ds : List D) (h : Hpp) (e : fns[f]? = some fn) : callF fns (k + 1) f ds h = runFn (callF fns k) fn ds h := by
  simp only [callF, e]
/-! outcomes -/
def ifO (r : R Bool) (ρ : Env) (f g : Hpp → O) : O := match r with
  | .ok true h => f h
  | .ok false h => g h
  | .er x h => .er x ρ h
  | .no => .no
@[simp] theorem ifO_ok (b : Bool) (h : Hpp) (ρ : Env) (f g : Hpp → O) : ifO (.ok b h) ρ f g = if b = true then f h else g h := by cases b <;> rfl
@[simp] theorem ifO_er (x : Nat) (h : Hpp) (ρ : Env) (f g : Hpp → O) : ifO (.er x h) ρ f g = .er x ρ h := rfl
@[simp] theorem tru_ok (d : D) (h : Hpp) : tru (.ok d h) = opt (truthy d h) h := rfl
@[simp] theorem tru_er (c : Nat) (h : Hpp) : tru (.er c h) = .er c h := rfl
@[simp] theorem truthy_bl (b : Bool) (h : Hpp) : truthy (.bl b) h = some b := rfl
@[simp] theorem truthy_int (i : Int) (h : Hpp) : truthy (.int i) h = some (decide (i ≠ 0)) := rfl
@[simp] theorem truthy_non (h : Hpp) : truthy .non h = some false := rfl
@[simp] theorem truthy_tup (xs : List D) (h : Hpp) : truthy (.tup xs) h = some (!xs.isEmpty) := rfl
@[simp] theorem truthy_fl (xs : List D) (h : Hpp) : truthy (.fl xs) h = some (!xs.isEmpty) := rfl
def whl (cal : Cal) (c : E) (b : Ss) (ρ : Env) (h : Hpp) : O := whileL (fun ρ h => tru (ev cal c ρ h)) (fun ρ h => exs cal b ρ h) ρ h
/-- one turn of a loop that goes on -/
def turn (o : O) (f : Env → Hpp → O) : O := match o with
  | .nx ρ h => f ρ h
  | .ct ρ h => f ρ h
  | .bk ρ h => .nx ρ h
  | .no => .no
  | .rt d h => .rt d h
  | .er x ρ h => .er x ρ h
@[simp] theorem turn_nx (ρ : Env) (h : Hpp) (f : Env → Hpp → O) : turn (.nx ρ h) f = f ρ h := rfl
@[simp] theorem turn_ct (ρ : Env) (h : Hpp) (f : Env → Hpp → O) : turn (.ct ρ h) f = f ρ h := rfl
@[simp] theorem turn_bk (ρ : Env) (h : Hpp) (f : Env → Hpp → O) : turn (.bk ρ h) f = .nx ρ h := rfl
@[simp] theorem turn_rt (d : D) (h : Hpp) (f : Env → Hpp → O) : turn (.rt d h) f = .rt d h := rfl
@[simp] theorem turn_er (x : Nat) (ρ : Env) (h : Hpp) (f : Env → Hpp → O) : turn (.er x ρ h) f = .er x ρ h := rfl
theorem whl_eq (cal : Cal) (c : E) (b : Ss) (ρ : Env) (h : Hpp) : whl cal c b ρ h = ifO (tru (ev cal c ρ h)) ρ (fun h1 => turn (exs cal b ρ h1) fun ρ' h' => whl cal c b ρ' h') (fun h1 => .nx ρ h1) := by
  unfold whl
  rw [whileL_eq]
  cases tru (ev cal c ρ h) with
  | ok k h1 => cases k with
    | true => simp only [ifO]; cases exs cal b ρ h1 <;> rfl
    | false => rfl
  | er x h1 => rfl
  | no => rfl
def okH (hl : List (Nat × Cell)) (h : Hpp) : Bool := hl.all fun p => decide (h[p.1]? = some p.2)
@[simp] theorem okH_nil (h : Hpp) : okH [] h = true := rfl
def forr (cal : Cal) (tg : Tg) (b : Ss) (hl : List (Nat × Cell)) (ds : List D) (ρ : Env) (h : Hpp) : O := forL (okH hl) (fun ρ d => sto tg ρ d) (fun ρ h => exs cal b ρ h) ds ρ h
theorem forr_nil (cal : Cal) (tg : Tg) (b : Ss) (hl : List (Nat × Cell)) (ρ : Env) (h : Hpp) : forr cal tg b hl [] ρ h = if okH hl h = true then .nx ρ h else .no := rfl
theorem forr_cons (cal : Cal) (tg : Tg) (b : Ss) (hl : List (Nat × Cell)) (d : D) (ds : List D) (ρ ρ1 : Env) (h : Hpp) (c : okH hl h = true) (e : sto tg ρ d = some ρ1) : forr cal tg b hl (d :: ds) ρ h = turn (exs cal b ρ1 h) fun ρ' h' => forr cal tg b hl ds ρ' h' := by
  unfold forr
  simp only [forL]
  rw [if_pos c]
  rw [e]
  simp only
  cases exs cal b ρ1 h <;> rfl
def cmp1 (cal : Cal) (elt : E) (tg : Tg) (cs : Es) (hl : List (Nat × Cell)) (ds : List D) (ρ : Env) (h : Hpp) : R (List D) := compL (okH hl) (fun d => sto tg ρ d) (fun ρ h => evc cal cs ρ h) (fun ρ h => ev cal elt ρ h) ds h
theorem cmp1_nil (cal : Cal) (elt : E) (tg : Tg) (cs : Es) (hl : List (Nat × Cell)) (ρ : Env) (h : Hpp) : cmp1 cal elt tg cs hl [] ρ h = if okH hl h = true then .ok [] h else .no := rfl
theorem cmp1_cons (cal : Cal) (elt : E) (tg : Tg) (cs : Es) (hl : List (Nat × Cell)) (d : D) (ds : List D) (ρ ρ1 : Env) (h : Hpp) (c : okH hl h = true) (e : sto tg ρ d = some ρ1) : cmp1 cal elt tg cs hl (d :: ds) ρ h =
    (evc cal cs ρ1 h).bind fun b h1 => if b = true then (ev cal elt ρ1 h1).bind fun y h2 => (cmp1 cal elt tg cs hl ds ρ h2).bind fun ys h3 => .ok (y :: ys) h3 else cmp1 cal elt tg cs hl ds ρ h1 := by
  unfold cmp1
  simp only [compL]
  rw [if_pos c, e]
  simp only
  cases evc cal cs ρ1 h with
  | ok b h1 => cases b <;> rfl
  | er c h1 => rfl
  | no => rfl
theorem cmp1_name (cal : Cal) (elt : E) (i : Nat) (cs : Es) (hl : List (Nat × Cell)) (d : D) (ds : List D) (ρ : Env) (h : Hpp) : cmp1 cal elt (.name i) cs hl (d :: ds) ρ h = if okH hl h = true then
    (evc cal cs (ρ.set i (some d)) h).bind fun b h1 => if b = true then (ev cal elt (ρ.set i (some d)) h1).bind fun y h2 => (cmp1 cal elt (.name i) cs hl ds ρ h2).bind fun ys h3 => .ok (y :: ys) h3 else cmp1 cal elt (.name i) cs hl ds ρ h1 else .no := by
  by_cases c : okH hl h = true
  · rw [if_pos c]; exact cmp1_cons cal elt (.name i) cs hl d ds ρ _ h c (by simp [sto])
  · rw [if_neg c]
    unfold cmp1
    simp only [compL]
    rw [if_neg c]
/-- every element told by itself -/
theorem cmp1_map (cal : Cal) (elt : E) (tg : Tg) (hl : List (Nat × Cell)) (ρ : Env) (h : Hpp) (f : D → D) (c : okH hl h = true) : ∀ ds : List D, (∀ d ∈ ds, ∃ ρ1, sto tg ρ d = some ρ1 ∧ ev cal elt ρ1 h = .ok (f d) h) → cmp1 cal elt tg .nil hl ds ρ h = .ok (ds.map f) h
  | [], _ => by rw [cmp1_nil, if_pos c]; rfl
  | d :: ds, q => by
    obtain ⟨ρ1, e1, e2⟩ := q d List.mem_cons_self
    rw [cmp1_cons cal elt tg .nil hl d ds ρ ρ1 h c e1]
    simp only [evc, R.bind_ok, if_true, e2]
    rw [cmp1_map cal elt tg hl ρ h f c ds fun d hd => q d (List.mem_cons_of_mem _ hd)]
    rfl
section
variable (cal : Cal) (ρ : Env) (h : Hpp)
@[simp] theorem ev_cst (d : D) : ev cal (.cst d) ρ h = .ok d h := by simp only [ev]
theorem ev_var {i : Nat} {d : D} (e : ρ[i]? = some (some d)) : ev cal (.var i) ρ h = .ok d h := by simp only [ev, e]
@[simp] theorem ev_v0 (a : D) (r : Env) : ev cal (.var 0) (some a :: r) h = .ok a h := by simp [ev]
@[simp] theorem ev_v1 (a : D) (x : Option D) (r : Env) : ev cal (.var 1) (x :: some a :: r) h = .ok a h := by simp [ev]
@[simp] theorem ev_v2 (a : D) (x y : Option D) (r : Env) : ev cal (.var 2) (x :: y :: some a :: r) h = .ok a h := by simp [ev]
@[simp] theorem ev_v3 (a : D) (x y z : Option D) (r : Env) : ev cal (.var 3) (x :: y :: z :: some a :: r) h = .ok a h := by simp [ev]
@[simp] theorem ev_v4 (a : D) (x y z u : Option D) (r : Env) : ev cal (.var 4) (x :: y :: z :: u :: some a :: r) h = .ok a h := by simp [ev]
@[simp] theorem ev_v5 (a : D) (x y z u v : Option D) (r : Env) : ev cal (.var 5) (x :: y :: z :: u :: v :: some a :: r) h = .ok a h := by simp [ev]
@[simp] theorem ev_v6 (a : D) (x y z u v w : Option D) (r : Env) : ev cal (.var 6) (x :: y :: z :: u :: v :: w :: some a :: r) h = .ok a h := by simp [ev]
@[simp] theorem ev_v7 (a : D) (x y z u v w s : Option D) (r : Env) : ev cal (.var 7) (x :: y :: z :: u :: v :: w :: s :: some a :: r) h = .ok a h := by simp [ev]
@[simp] theorem ev_glb (x : Str) (d : D) : ev cal (.glb x d) ρ h = .ok d h := by simp only [ev]
@[simp] theorem ev_tup (es : Es) : ev cal (.tup es) ρ h = (evs cal es ρ h).bind fun ds h => .ok (.tup ds) h := by simp only [ev]
@[simp] theorem ev_lst (th : Bool) (es : Es) : ev cal (.lst th es) ρ h = (evs cal es ρ h).bind fun ds h => new th ds h := by simp only [ev]
@[simp] theorem ev_bin (th : Bool) (op : Bop) (a b : E) : ev cal (.bin th op a b) ρ h = (ev cal a ρ h).bind fun x h => (ev cal b ρ h).bind fun y h => bop op th x y h := by simp only [ev]
def negR (x : D) (h : Hpp) : R D := match x with
  | .int i => .ok (.int (-i)) h
  | _ => .no
@[simp] theorem negR_int (i : Int) : negR (.int i) h = .ok (.int (-i)) h := rfl
@[simp] theorem ev_neg (a : E) : ev cal (.neg a) ρ h = (ev cal a ρ h).bind fun x h => negR x h := by
  simp only [ev]; rfl
@[simp] theorem ev_not (a : E) : ev cal (.not a) ρ h = (tru (ev cal a ρ h)).bind fun b h => .ok (.bl (!b)) h := by simp only [ev]
@[simp] theorem ev_and (a b : E) : ev cal (.and a b) ρ h = (ev cal a ρ h).bind fun x h => (opt (truthy x h) h).bind fun k h => if k = true then ev cal b ρ h else .ok x h := by
  simp only [ev]
  cases ev cal a ρ h with
  | ok x h1 =>
    simp only [R.bind_ok]
    cases truthy x h1 with
    | some k => cases k <;> rfl
    | none => rfl
  | er c h1 => rfl
  | no => rfl
@[simp] theorem ev_or (a b : E) : ev cal (.or a b) ρ h = (ev cal a ρ h).bind fun x h => (opt (truthy x h) h).bind fun k h => if k = true then .ok x h else ev cal b ρ h := by
  simp only [ev]
  cases ev cal a ρ h with
  | ok x h1 =>
    simp only [R.bind_ok]
    cases truthy x h1 with
    | some k => cases k <;> rfl
    | none => rfl
  | er c h1 => rfl
  | no => rfl
@[simp] theorem ev_cmp (op : Cop) (a b : E) : ev cal (.cmp op a b) ρ h = (ev cal a ρ h).bind fun x h => (ev cal b ρ h).bind fun y h => (opt (cop op x y h) h).bind fun k h => .ok (.bl k) h := by simp only [ev]
@[simp] theorem ev_isN (ng : Bool) (a : E) : ev cal (.isN ng a) ρ h = (ev cal a ρ h).bind fun x h => .ok (.bl (decide (x = .non) != ng)) h := by simp only [ev]
@[simp] theorem ev_chain (o1 o2 : Cop) (a b c : E) : ev cal (.chain o1 o2 a b c) ρ h = (ev cal a ρ h).bind fun x h => (ev cal b ρ h).bind fun y h => (opt (cop o1 x y h) h).bind fun k h => if k = true then (ev cal c ρ h).bind fun z h => (opt (cop o2 y z h) h).bind fun k h => .ok (.bl k) h else .ok (.bl false) h := by
  simp only [ev]
  congr 1; funext x h1; congr 1; funext y h2; congr 1; funext k h3
  cases k <;> rfl
@[simp] theorem ev_ite (c a b : E) : ev cal (.ite c a b) ρ h = (tru (ev cal c ρ h)).bind fun k h => if k = true then ev cal a ρ h else ev cal b ρ h := by
  simp only [ev]
  congr 1; funext k h1
  cases k <;> rfl
@[simp] theorem ev_call (f : Nat) (es : Es) : ev cal (.call f es) ρ h = (evs cal es ρ h).bind fun ds h => cal f ds h := by simp only [ev]
theorem ev_callv {i f : Nat} (es : Es) (e : ρ[i]? = some (some (.fn f))) : ev cal (.callv i es) ρ h = (evs cal es ρ h).bind fun ds h => cal f ds h := by simp only [ev, e]
@[simp] theorem ev_bi (b : Bi) (th : Bool) (es : Es) : ev cal (.bi b th es) ρ h = (evs cal es ρ h).bind fun ds h => doBi b th ds h := by simp only [ev]
@[simp] theorem ev_isi (a : E) (ts : List Ty) : ev cal (.isi a ts) ρ h = (ev cal a ρ h).bind fun x h => if tyOk x h = true then .ok (.bl (ts.any fun t => isTy x h t)) h else .no := by simp only [ev]
@[simp] theorem ev_mth (m : Mt) (o : E) (es : Es) : ev cal (.mth m o es) ρ h = (ev cal o ρ h).bind fun x h => if mtRecv m x h = true then (evs cal es ρ h).bind fun ds h => doMt m x ds h else .no := by simp only [ev]
@[simp] theorem ev_idx (a b : E) : ev cal (.idx a b) ρ h = (ev cal a ρ h).bind fun x h => (ev cal b ρ h).bind fun y h => opt (item x y h) h := by simp only [ev]
@[simp] theorem ev_sl (th : Bool) (a : E) (lo hi : Es) : ev cal (.sl th a lo hi) ρ h = (ev cal a ρ h).bind fun x h => (evo cal lo ρ h).bind fun l h => (evo cal hi ρ h).bind fun u h => slice th x l u h := by simp only [ev]
@[simp] theorem ev_rev (th : Bool) (a : E) : ev cal (.rev th a) ρ h = (ev cal a ρ h).bind fun x h => revd th x h := by simp only [ev]
@[simp] theorem ev_comp (th : Bool) (elt : E) (tg : Tg) (it : Itr) (cs : Es) (own : List Nat) : ev cal (.comp th elt tg it cs own) ρ h = (src cal it ρ h).bind fun s h => if s.items.length ≤ line then (noEr (cmp1 cal elt tg cs s.held s.items (wipe ρ own) h)).bind fun ds h => new th ds h else .no := by
  simp only [ev]; rfl
@[simp] theorem evs_nil : evs cal .nil ρ h = .ok [] h := by simp only [evs]
@[simp] theorem evs_cons (e : E) (es : Es) : evs cal (.cons e es) ρ h = (ev cal e ρ h).bind fun d h => (evs cal es ρ h).bind fun ds h => .ok (d :: ds) h := by simp only [evs]
@[simp] theorem evo_nil : evo cal .nil ρ h = .ok none h := by simp only [evo]
def oInt (d : D) (h : Hpp) : R (Option Int) := match d with
  | .int i => .ok (some i) h
  | _ => .no
@[simp] theorem oInt_int (i : Int) : oInt (.int i) h = .ok (some i) h := rfl
@[simp] theorem evo_cons (e : E) (es : Es) : evo cal (.cons e es) ρ h = (ev cal e ρ h).bind fun d h => oInt d h := by simp only [evo]; rfl
@[simp] theorem evc_nil : evc cal .nil ρ h = .ok true h := by simp only [evc]
@[simp] theorem evc_cons (e : E) (es : Es) : evc cal (.cons e es) ρ h = (tru (ev cal e ρ h)).bind fun b h => if b = true then evc cal es ρ h else .ok false h := by
  simp only [evc]
  congr 1; funext k h1
  cases k <;> rfl
@[simp] theorem src_of (e : E) : src cal (.of e) ρ h = (ev cal e ρ h).bind fun d h => srcOf d h := by simp only [src]
def rng1 (x : D) (h : Hpp) : R Src := match x with
  | .int i => srcRange 0 i h
  | _ => .no
@[simp] theorem rng1_int (i : Int) : rng1 (.int i) h = srcRange 0 i h := rfl
@[simp] theorem src_range1 (a : E) : src cal (.range1 a) ρ h = (ev cal a ρ h).bind fun x h => rng1 x h := by simp only [src]; rfl
def rng2 (x y : D) (h : Hpp) : R Src := match x, y with
  | .int i, .int j => srcRange i j h
  | _, _ => .no
@[simp] theorem rng2_int (i j : Int) : rng2 (.int i) (.int j) h = srcRange i j h := rfl
@[simp] theorem src_range2 (a b : E) : src cal (.range2 a b) ρ h = (ev cal a ρ h).bind fun x h => (ev cal b ρ h).bind fun y h => rng2 x y h := by simp only [src]; rfl
def srcE (d : D) (h : Hpp) : R Src := match lsOf d h with
  | some xs => .ok ⟨enumL 0 xs, heldOf d h⟩ h
  | none => .no
@[simp] theorem src_enum (e : E) : src cal (.enum e) ρ h = (ev cal e ρ h).bind fun d h => srcE d h := by simp only [src]; rfl
def srcZ (x y : D) (h : Hpp) : R Src := match zipOf x y h with
  | some xs => .ok ⟨xs, heldOf x h ++ heldOf y h⟩ h
  | none => .no
@[simp] theorem src_zip (a b : E) : src cal (.zip a b) ρ h = (ev cal a ρ h).bind fun x h => (ev cal b ρ h).bind fun y h => srcZ x y h := by simp only [src]; rfl
@[simp] theorem ex_exp (e : E) : ex cal (.exp e) ρ h = andThen (ev cal e ρ h) ρ fun _ h => .nx ρ h := by simp only [ex]
@[simp] theorem ex_asg (t : Lv) (e : E) : ex cal (.asg t e) ρ h = andThen (ev cal e ρ h) ρ fun d h => asg cal t d ρ h := by simp only [ex]
@[simp] theorem ex_iff (c : E) (a b : Ss) : ex cal (.iff c a b) ρ h = ifO (tru (ev cal c ρ h)) ρ (fun h => exs cal a ρ h) (fun h => exs cal b ρ h) := by
  simp only [ex]
  cases tru (ev cal c ρ h) with
  | ok k h1 => cases k <;> rfl
  | er c h1 => rfl
  | no => rfl
@[simp] theorem ex_whl (c : E) (b : Ss) : ex cal (.whl c b) ρ h = whl cal c b ρ h := by simp only [ex]; rfl
def thenS (r : R Src) (ρ : Env) (f : Src → Hpp → O) : O := match r with
  | .ok s h => f s h
  | .er c h => .er c ρ h
  | .no => .no
@[simp] theorem thenS_ok (s : Src) (f : Src → Hpp → O) : thenS (.ok s h) ρ f = f s h := rfl
@[simp] theorem ex_for (tg : Tg) (it : Itr) (b : Ss) : ex cal (.for_ tg it b) ρ h = thenS (src cal it ρ h) ρ fun s h1 => forr cal tg b s.held s.items ρ h1 := by simp only [ex]; rfl
@[simp] theorem ex_ret (e : E) : ex cal (.ret e) ρ h = andThen (ev cal e ρ h) ρ fun d h => .rt d h := by simp only [ex]
@[simp] theorem ex_retn : ex cal .retn ρ h = .rt .non h := by simp only [ex]
@[simp] theorem ex_raise (c : Nat) : ex cal (.raise c) ρ h = .er c ρ h := by simp only [ex]
@[simp] theorem ex_pass : ex cal .pass ρ h = .nx ρ h := by simp only [ex]
@[simp] theorem ex_cont : ex cal .cont ρ h = .ct ρ h := by simp only [ex]
@[simp] theorem ex_brk : ex cal .brk ρ h = .bk ρ h := by simp only [ex]
def hand (cal : Cal) (o : O) (hs : Hs) : O := match o with
  | .er c ρ' h' => exh cal hs c ρ' h'
  | o => o
@[simp] theorem ex_tr (b : Ss) (hs : Hs) : ex cal (.tr b hs) ρ h = hand cal (exs cal b ρ h) hs := by simp only [ex]; rfl
@[simp] theorem hand_er (c : Nat) (hs : Hs) : hand cal (.er c ρ h) hs = exh cal hs c ρ h := rfl
@[simp] theorem hand_nx (hs : Hs) : hand cal (.nx ρ h) hs = .nx ρ h := rfl
@[simp] theorem hand_rt (d : D) (hs : Hs) : hand cal (.rt d h) hs = .rt d h := rfl
@[simp] theorem exh_nil (c : Nat) : exh cal .nil c ρ h = .er c ρ h := by simp only [exh]
@[simp] theorem exh_cons (j c : Nat) (d : D) (hs : Hs) : exh cal (.cons j d hs) c ρ h = if j = c then .rt d h else exh cal hs c ρ h := by simp only [exh]
@[simp] theorem exs_nil : exs cal .nil ρ h = .nx ρ h := by simp only [exs]
@[simp] theorem exs_cons (s : S) (ss : Ss) : exs cal (.cons s ss) ρ h = (ex cal s ρ h).seq fun ρ h => exs cal ss ρ h := by simp only [exs]
@[simp] theorem asg_name (i : Nat) (d : D) : asg cal (.name i) d ρ h = .nx (ρ.set i (some d)) h := by simp only [asg]
@[simp] theorem asg_tup (ts : Lv) (xs : List D) : asg cal (.tup ts) (.tup xs) ρ h = if xs.length = ts.len then asgs cal ts xs ρ h else .no := by simp only [asg]
@[simp] theorem asgs_nil : asgs cal .nil [] ρ h = .nx ρ h := by simp only [asgs]
@[simp] theorem asgs_cons (t ts : Lv) (d : D) (r : List D) : asgs cal (.cons t ts) (d :: r) ρ h = (asg cal t d ρ h).seq fun ρ' h' => asgs cal ts r ρ' h' := by
  simp only [asgs]
  cases asg cal t d ρ h <;> rfl
@[simp] theorem len_cons (t ts : Lv) : (Lv.cons t ts).len = ts.len + 1 := rfl
@[simp] theorem len_nil : Lv.nil.len = 0 := rfl
/-! operators of numbers -/
@[simp] theorem bop_add (th : Bool) (a b : Int) : bop .add th (.int a) (.int b) h = .ok (.int (a + b)) h := rfl
@[simp] theorem bop_sub (th : Bool) (a b : Int) : bop .sub th (.int a) (.int b) h = .ok (.int (a - b)) h := rfl
@[simp] theorem bop_mul (th : Bool) (a b : Int) : bop .mul th (.int a) (.int b) h = if mulOk a b = true then .ok (.int (a * b)) h else .no := rfl
@[simp] theorem bop_fdiv (th : Bool) (a b : Int) : bop .fdiv th (.int a) (.int b) h = if divOk b = true then .ok (.int (a.fdiv b)) h else .no := rfl
@[simp] theorem bop_mod (th : Bool) (a b : Int) : bop .mod th (.int a) (.int b) h = if b ≠ 0 then .ok (.int (a.fmod b)) h else .no := rfl
@[simp] theorem cop_lt (a b : Int) : cop .lt (.int a) (.int b) h = some (decide (a < b)) := rfl
@[simp] theorem cop_le (a b : Int) : cop .le (.int a) (.int b) h = some (decide (a ≤ b)) := rfl
@[simp] theorem cop_gt (a b : Int) : cop .gt (.int a) (.int b) h = some (decide (a > b)) := rfl
@[simp] theorem cop_ge (a b : Int) : cop .ge (.int a) (.int b) h = some (decide (a ≥ b)) := rfl
@[simp] theorem pyEq_int (a b : Int) : pyEq (.int a) (.int b) h = some (decide (a = b)) := by
  simp [pyEq, res, fit, deq, Bool.beq_eq_decide_eq]
@[simp] theorem cop_eq (x y : D) : cop .eq x y h = pyEq x y h := rfl
@[simp] theorem cop_ne (x y : D) : cop .ne x y h = (pyEq x y h).map (!·) := rfl
@[simp] theorem pyEq_bl (a b : Bool) : pyEq (.bl a) (.bl b) h = some (a == b) := by
  simp [pyEq, res, fit, deq]
@[simp] theorem bi_abs (th : Bool) (i : Int) : doBi .abs th [.int i] h = .ok (.int i.natAbs) h := by
  have : (if i < 0 then -i else i) = (i.natAbs : Int) := by split <;> omega
  simp [doBi, this]
@[simp] theorem bi_int (th : Bool) (i : Int) : doBi .int th [.int i] h = .ok (.int i) h := rfl
@[simp] theorem bi_len_tup (th : Bool) (xs : List D) : doBi .len th [.tup xs] h = .ok (.int xs.length) h := rfl
@[simp] theorem bi_len_fl (th : Bool) (xs : List D) : doBi .len th [.fl xs] h = .ok (.int xs.length) h := rfl
@[simp] theorem item_tup0 (x : D) (r : List D) : item (.tup (x :: r)) (.int 0) h = some x := by simp [item, dicOf, seqOf, atI, ixN]
@[simp] theorem item_tup1 (x y : D) (r : List D) : item (.tup (x :: y :: r)) (.int 1) h = some y := by
  have : (1 : Int) < (r.length : Int) + 1 + 1 := by omega
  simp [item, dicOf, seqOf, atI, ixN, this]
end
@[simp] theorem wipe_nil (ρ : Env) : wipe ρ [] = ρ := rfl
@[simp] theorem wipe_cons (ρ : Env) (i : Nat) (r : List Nat) : wipe ρ (i :: r) = (wipe ρ r).set i none := rfl
@[simp] theorem noEr_ok {α : Type} (a : α) (h : Hpp) : noEr (.ok a h) = .ok a h := rfl
@[simp] theorem new_f (xs : List D) (h : Hpp) : new false xs h = .ok (.fl xs) h := rfl
@[simp] theorem new_t (xs : List D) (h : Hpp) : new true xs h = .ok (.ref h.length) (h ++ [.lst xs]) := rfl
@[simp] theorem srcOf_fl (xs : List D) (h : Hpp) : srcOf (.fl xs) h = .ok ⟨xs, []⟩ h := rfl
@[simp] theorem srcOf_tup (xs : List D) (h : Hpp) : srcOf (.tup xs) h = .ok ⟨xs, []⟩ h := rfl
@[simp] theorem bi_all (th : Bool) (xs : List D) (h : Hpp) : doBi .all th [.fl xs] h = match blsOf xs with
    | some bs => .ok (.bl (bs.all id)) h
    | none => .no := rfl
@[simp] theorem blsOf_nil : blsOf [] = some [] := rfl
@[simp] theorem blsOf_cons (b : Bool) (r : List D) : blsOf (.bl b :: r) = (blsOf r).map (b :: ·) := rfl
theorem blsOf_true : ∀ n : Nat, blsOf (List.replicate n (.bl true)) = some (List.replicate n true)
  | 0 => rfl
  | n + 1 => by rw [List.replicate_succ, blsOf_cons, blsOf_true n]; rfl
@[simp] theorem tyOk_non (h : Hpp) : tyOk .non h = true := rfl
@[simp] theorem tyOk_bl (b : Bool) (h : Hpp) : tyOk (.bl b) h = true := rfl
@[simp] theorem tyOk_int (b : Int) (h : Hpp) : tyOk (.int b) h = true := rfl
@[simp] theorem tyOk_str (b : Str) (h : Hpp) : tyOk (.str b) h = true := rfl
@[simp] theorem tyOk_tup (b : List D) (h : Hpp) : tyOk (.tup b) h = true := rfl
@[simp] theorem tyOk_fl (b : List D) (h : Hpp) : tyOk (.fl b) h = true := rfl
theorem range0 {i : Int} (h0 : -1000000 ≤ i) (h1 : i ≤ 16000000) (h : Hpp) : srcRange 0 i h = .ok ⟨rangeL 0 i.toNat 1, []⟩ h := by
  unfold srcRange
  rw [Int.sub_zero, if_pos]
  refine ⟨by decide, by decide, by omega, by omega, ?_⟩
  have : line = 16777216 := rfl
  omega
theorem rangeL_len (lo : Int) (n : Nat) (c : Int) : (rangeL lo n c).length = n := by
  unfold rangeL; rw [List.length_map, List.length_range]
def augI (x : Int) (y : D) (op : Bop) (i : Nat) (ρ : Env) (h : Hpp) : O := match y with
  | .int b => andThen (bop op false (.int x) (.int b) h) ρ fun z h => .nx (ρ.set i (some z)) h
  | _ => .no
@[simp] theorem augI_int (x b : Int) (op : Bop) (i : Nat) (ρ : Env) (h : Hpp) : augI x (.int b) op i ρ h = andThen (bop op false (.int x) (.int b) h) ρ fun z h => .nx (ρ.set i (some z)) h := rfl
theorem ex_aug (cal : Cal) (i : Nat) (op : Bop) (e : E) (ρ : Env) (h : Hpp) (x : Int) (q : ρ[i]? = some (some (.int x))) : ex cal (.aug i op e) ρ h = andThen (ev cal e ρ h) ρ fun y h => augI x y op i ρ h := by
  simp only [ex, q]
  congr 1
  funext y h1
  cases y <;> rfl
@[simp] theorem ex_aug1 (cal : Cal) (op : Bop) (e : E) (a : Option D) (x : Int) (r : Env) (h : Hpp) : ex cal (.aug 1 op e) (a :: some (.int x) :: r) h = andThen (ev cal e (a :: some (.int x) :: r) h) (a :: some (.int x) :: r) fun y h => augI x y op 1 (a :: some (.int x) :: r) h := ex_aug cal 1 op e _ h x rfl
theorem rangeL_succ (lo : Int) (n : Nat) : rangeL lo (n + 1) 1 = .int lo :: rangeL (lo + 1) n 1 := by
  unfold rangeL
  rw [List.range_succ_eq_map, List.map_cons, List.map_map]
  congr 1
  · simp
  · apply List.map_congr_left
    intro i _
    show D.int (lo + ((i + 1 : Nat) : Int) * 1) = D.int (lo + 1 + (i : Int) * 1)
    congr 1; omega
@[simp] theorem ev_callv0 (cal : Cal) (f : Nat) (es : Es) (r : Env) (h : Hpp) : ev cal (.callv 0 es) (some (.fn f) :: r) h = (evs cal es (some (.fn f) :: r) h).bind fun ds h => cal f ds h := ev_callv cal _ h es rfl
@[simp] theorem pureL_nil : pureL [] = true := rfl
@[simp] theorem pureL_cons (x : D) (r : List D) : pureL (x :: r) = (pureD x && pureL r) := rfl
@[simp] theorem pureD_tup (xs : List D) : pureD (.tup xs) = pureL xs := rfl
@[simp] theorem pureD_fl (xs : List D) : pureD (.fl xs) = pureL xs := rfl
@[simp] theorem pureD_ref (n : Nat) : pureD (.ref n) = false := rfl
@[simp] theorem noLs_nil : noLs [] = true := rfl
@[simp] theorem noLs_cons (x : D) (r : List D) : noLs (x :: r) = (noL x && noLs r) := rfl
@[simp] theorem noL_tup (xs : List D) : noL (.tup xs) = noLs xs := rfl
@[simp] theorem noL_fl (xs : List D) : noL (.fl xs) = false := rfl
@[simp] theorem noL_ref (xs : Nat) : noL (.ref xs) = false := rfl
@[simp] theorem frzL_nil (n : Nat) (h : Hpp) (k : Nat) : frzL n h k [] = [] := by simp only [frzL]
@[simp] theorem frzL_cons (n : Nat) (h : Hpp) (k : Nat) (x : D) (r : List D) : frzL n h k (x :: r) = frz n h k x :: frzL n h k r := by simp only [frzL]
@[simp] theorem frz_tup (n : Nat) (h : Hpp) (k : Nat) (xs : List D) : frz n h (k + 1) (.tup xs) = .tup (frzL n h k xs) := by simp only [frz]
@[simp] theorem frz_fl (n : Nat) (h : Hpp) (k : Nat) (xs : List D) : frz n h (k + 1) (.fl xs) = .fl (frzL n h k xs) := by simp only [frz]
@[simp] theorem pureD_non : pureD D.non = true := rfl
@[simp] theorem noL_non : noL D.non = true := rfl
@[simp] theorem res_non (h : Hpp) : res D.non h = D.non := rfl
@[simp] theorem frz_non (n : Nat) (h : Hpp) (k : Nat) : frz n h k D.non = D.non := by cases k <;> simp [frz]
@[simp] theorem pureD_bl (b : Bool) : pureD (D.bl b) = true := rfl
@[simp] theorem noL_bl (b : Bool) : noL (D.bl b) = true := rfl
@[simp] theorem res_bl (b : Bool) (h : Hpp) : res (D.bl b) h = (D.bl b) := rfl
@[simp] theorem frz_bl (b : Bool) (n : Nat) (h : Hpp) (k : Nat) : frz n h k (D.bl b) = (D.bl b) := by cases k <;> simp [frz]
@[simp] theorem pureD_int (i : Int) : pureD (D.int i) = true := rfl
@[simp] theorem noL_int (i : Int) : noL (D.int i) = true := rfl
@[simp] theorem res_int (i : Int) (h : Hpp) : res (D.int i) h = (D.int i) := rfl
@[simp] theorem frz_int (i : Int) (n : Nat) (h : Hpp) (k : Nat) : frz n h k (D.int i) = (D.int i) := by cases k <;> simp [frz]
@[simp] theorem pureD_str (s : Str) : pureD (D.str s) = true := rfl
@[simp] theorem noL_str (s : Str) : noL (D.str s) = true := rfl
@[simp] theorem res_str (s : Str) (h : Hpp) : res (D.str s) h = (D.str s) := rfl
@[simp] theorem frz_str (s : Str) (n : Nat) (h : Hpp) (k : Nat) : frz n h k (D.str s) = (D.str s) := by cases k <;> simp [frz]
@[simp] theorem pureD_fn (f : Nat) : pureD (D.fn f) = true := rfl
@[simp] theorem noL_fn (f : Nat) : noL (D.fn f) = true := rfl
@[simp] theorem res_fn (f : Nat) (h : Hpp) : res (D.fn f) h = (D.fn f) := rfl
@[simp] theorem frz_fn (f : Nat) (n : Nat) (h : Hpp) (k : Nat) : frz n h k (D.fn f) = (D.fn f) := by cases k <;> simp [frz]
@[simp] theorem res_tup (xs : List D) (h : Hpp) : res (D.tup xs) h = D.tup xs := rfl
@[simp] theorem res_fl (xs : List D) (h : Hpp) : res (D.fl xs) h = D.fl xs := rfl
end PL
end
section
set_option Elab.async false
set_option linter.all false
set_option maxRecDepth 100000
/-! PLR: numbers: how large; fractions as values. -/
namespace PL
/-- fewer than e binary digits -/
def Bd (e : Nat) (x : Int) : Prop := x.natAbs < 2 ^ e
theorem Bd.mono {e f : Nat} {x : Int} (h : Bd e x) (l : e ≤ f) : Bd f x := Nat.lt_of_lt_of_le h (Nat.pow_le_pow_right (by decide) l)
theorem Bd.neg {e : Nat} {x : Int} (h : Bd e x) : Bd e (-x) := by
  unfold Bd at *; rw [Int.natAbs_neg]; exact h
theorem Bd.mul {e f : Nat} {x y : Int} (h : Bd e x) (g : Bd f y) : Bd (e + f) (x * y) := by
  unfold Bd at *
  rw [Int.natAbs_mul, Nat.pow_add]
  exact Nat.mul_lt_mul'' h g
theorem Bd.add {e : Nat} {x y : Int} (h : Bd e x) (g : Bd e y) : Bd (e + 1) (x + y) := by
  unfold Bd at *
  have := Int.natAbs_add_le x y
  rw [Nat.pow_succ]; omega
theorem Bd.sub {e : Nat} {x y : Int} (h : Bd e x) (g : Bd e y) : Bd (e + 1) (x - y) := by
  rw [Int.sub_eq_add_neg]; exact h.add g.neg
theorem Bd.le {e : Nat} {x y : Int} (h : Bd e x) (l : y.natAbs ≤ x.natAbs) : Bd e y := Nat.lt_of_le_of_lt l h
theorem Bd.log {e : Nat} {x : Int} (h : Bd e x) : x.natAbs.log2 ≤ e := by
  unfold Bd at h
  by_cases h0 : x.natAbs = 0
  · rw [h0]; simp
  · exact Nat.le_of_lt ((Nat.log2_lt h0).mpr h)
theorem Bd.mulOk {e f : Nat} {x y : Int} (h : Bd e x) (g : Bd f y) (l : e + f < 1000000) : mulOk x y = true := by
  unfold PL.mulOk
  rw [Bool.or_eq_true]
  right
  have := h.log
  have := g.log
  exact decide_eq_true (by omega)
theorem Bd.divOk {e : Nat} {x : Int} (h : Bd e x) (n : x ≠ 0) (l : e < 9000) : divOk x = true := by
  unfold PL.divOk
  rw [Bool.and_eq_true]
  have := h.log
  exact ⟨decide_eq_true n, decide_eq_true (by omega)⟩
theorem mulOk_small {x y : Int} (h : y.natAbs < 2 ^ 64) : mulOk x y = true := by
  unfold PL.mulOk
  rw [Bool.or_eq_true, Bool.or_eq_true]
  exact .inl (.inr (decide_eq_true h))
/-- a fraction as the program holds it -/
def rv (q : Rat) : D := .tup [.int q.num, .int (q.den : Int)]
theorem rv_pure (q : Rat) : pureD (rv q) = true := rfl
/-- q is n over m -/
def Is (q : Rat) (n m : Int) : Prop := m ≠ 0 ∧ q = Rat.divInt n m
theorem Is.self (q : Rat) : Is q q.num q.den := ⟨by have := q.den_nz; omega, (Rat.num_divInt_den q).symm⟩
theorem Is.cross {q : Rat} {n m : Int} (h : Is q n m) : q.num * m = n * q.den := by
  obtain ⟨hm, e⟩ := h
  have hd : (q.den : Int) ≠ 0 := by have := q.den_nz; omega
  have e2 : Rat.divInt q.num q.den = Rat.divInt n m := by rw [Rat.num_divInt_den]; exact e
  exact (Rat.divInt_eq_divInt_iff hd hm).mp e2
theorem Is.of {q : Rat} {n m : Int} (hm : m ≠ 0) (h : q.num * m = n * q.den) : Is q n m := by
  have hd : (q.den : Int) ≠ 0 := by have := q.den_nz; omega
  refine ⟨hm, ?_⟩
  rw [← Rat.num_divInt_den q]
  exact (Rat.divInt_eq_divInt_iff hd hm).mpr h
theorem Is.add {q p : Rat} {n m a b : Int} (h : Is q n m) (g : Is p a b) : Is (q + p) (n * b + a * m) (m * b) := by
  obtain ⟨h1, rfl⟩ := h
  obtain ⟨g1, rfl⟩ := g
  exact ⟨Int.mul_ne_zero h1 g1, Rat.divInt_add_divInt n a h1 g1⟩
theorem Is.sub {q p : Rat} {n m a b : Int} (h : Is q n m) (g : Is p a b) : Is (q - p) (n * b - a * m) (m * b) := by
  obtain ⟨h1, rfl⟩ := h
  obtain ⟨g1, rfl⟩ := g
  exact ⟨Int.mul_ne_zero h1 g1, Rat.divInt_sub_divInt n a h1 g1⟩
theorem Is.mul {q p : Rat} {n m a b : Int} (h : Is q n m) (g : Is p a b) : Is (q * p) (n * a) (m * b) := by
  obtain ⟨h1, rfl⟩ := h
  obtain ⟨g1, rfl⟩ := g
  exact ⟨Int.mul_ne_zero h1 g1, Rat.divInt_mul_divInt n a⟩
theorem Is.inv {q : Rat} {n m : Int} (h : Is q n m) (hn : n ≠ 0) : Is q⁻¹ m n := by
  obtain ⟨h1, rfl⟩ := h
  exact ⟨hn, Rat.inv_divInt n m⟩
theorem Is.div {q p : Rat} {n m a b : Int} (h : Is q n m) (g : Is p a b) (ha : a ≠ 0) : Is (q / p) (n * b) (m * a) := by
  rw [Rat.div_def]
  exact h.mul (g.inv ha)
theorem Is.num_le {q : Rat} {n m : Int} (h : Is q n m) : q.num.natAbs ≤ n.natAbs := by
  obtain ⟨hm, rfl⟩ := h
  rw [Rat.num_divInt]
  rw [Int.natAbs_ediv_of_dvd]
  · refine Nat.le_trans (Nat.div_le_self _ _) ?_
    rw [Int.natAbs_mul]
    have : m.sign.natAbs ≤ 1 := by
      rw [Int.natAbs_sign]; split <;> omega
    calc m.sign.natAbs * n.natAbs ≤ 1 * n.natAbs := Nat.mul_le_mul_right _ this
      _ = n.natAbs := Nat.one_mul _
  · exact Int.dvd_mul_of_dvd_right (Int.gcd_dvd_right ..)
theorem Is.den_le {q : Rat} {n m : Int} (h : Is q n m) : q.den ≤ m.natAbs := by
  obtain ⟨hm, rfl⟩ := h
  rw [Rat.den_divInt, if_neg hm]
  exact Nat.div_le_self _ _
theorem Is.bd {q : Rat} {n m : Int} {e f : Nat} (h : Is q n m) (hn : Bd e n) (hm : Bd f m) : Bd e q.num ∧ Bd f q.den := ⟨hn.le h.num_le, hm.le (by have := h.den_le; omega)⟩
/-- what make does: the parts over their divisor, the lower one's sign -/
theorem make_num {n m : Int} (hm : m ≠ 0) : (Rat.divInt n m).num = n.fdiv (if m < 0 then -(Int.gcd n m : Int) else Int.gcd n m) ∧ ((Rat.divInt n m).den : Int) = m.fdiv (if m < 0 then -(Int.gcd n m : Int) else Int.gcd n m) := by
  have g1 : (Int.gcd n m : Int) ∣ n := Int.gcd_dvd_left ..
  have g2 : (Int.gcd n m : Int) ∣ m := Int.gcd_dvd_right ..
  have g0 : 0 < (Int.gcd n m : Int) := by
    have : 0 < Int.gcd n m := Int.gcd_pos_of_ne_zero_right _ hm
    omega
  obtain ⟨a, ea⟩ := g1
  obtain ⟨b, eb⟩ := g2
  have hN : ((m.natAbs / Int.gcd m n : Nat) : Int) = (m.natAbs : Int) / (Int.gcd n m : Int) := by
    rw [Int.gcd_comm m n]; rfl
  rw [Rat.num_divInt, Rat.den_divInt, if_neg hm, hN, Int.gcd_comm m n]
  generalize (Int.gcd n m : Int) = g at *
  have gz : g ≠ 0 := by omega
  have ngz : -g ≠ 0 := by omega
  by_cases s : m < 0
  · rw [if_pos s, Int.sign_eq_neg_one_of_neg s]
    have e1 : n = -g * -a := by rw [Int.neg_mul_neg]; exact ea
    have e2 : m = -g * -b := by rw [Int.neg_mul_neg]; exact eb
    have e3 : (m.natAbs : Int) = g * -b := by
      rw [Int.ofNat_natAbs_of_nonpos (by omega), eb, Int.mul_neg]
    constructor
    · rw [show (-1 : Int) * n = g * -a by rw [ea, Int.mul_neg, Int.neg_one_mul], Int.mul_ediv_cancel_left _ gz]
      conv => rhs; rw [e1]
      rw [Int.mul_fdiv_cancel_left _ ngz]
    · rw [e3, Int.mul_ediv_cancel_left _ gz]
      conv => rhs; rw [e2]
      rw [Int.mul_fdiv_cancel_left _ ngz]
  · rw [if_neg s, Int.sign_eq_one_of_pos (by omega), Int.one_mul]
    have e3 : (m.natAbs : Int) = m := Int.natAbs_of_nonneg (by omega)
    rw [e3]
    constructor
    · rw [ea, Int.mul_ediv_cancel_left _ gz, Int.mul_fdiv_cancel_left _ gz]
    · rw [eb, Int.mul_ediv_cancel_left _ gz, Int.mul_fdiv_cancel_left _ gz]
theorem sq_pow (x : Rat) : ∀ m : Nat, (x * x) ^ m = x ^ (2 * m)
  | 0 => by simp
  | m + 1 => by
    rw [Rat.pow_succ, sq_pow x m, show 2 * (m + 1) = 2 * m + 1 + 1 by omega, Rat.pow_succ, Rat.pow_succ, Rat.mul_assoc]
/-- a fraction of not too many digits -/
def Sm (e : Nat) (q : Rat) : Prop := Bd e q.num ∧ Bd e q.den
theorem Sm.mono {e f : Nat} {q : Rat} (h : Sm e q) (l : e ≤ f) : Sm f q := ⟨h.1.mono l, h.2.mono l⟩
theorem Is.sm {q : Rat} {n m : Int} {e : Nat} (h : Is q n m) (hn : Bd e n) (hm : Bd e m) : Sm e q := h.bd hn hm
theorem Sm.mul {e f : Nat} {q p : Rat} (h : Sm e q) (g : Sm f p) : Sm (e + f) (q * p) := ((Is.self q).mul (Is.self p)).sm (h.1.mul g.1) (h.2.mul g.2)
theorem Sm.add {e f : Nat} {q p : Rat} (h : Sm e q) (g : Sm f p) : Sm (e + f + 1) (q + p) :=
  ((Is.self q).add (Is.self p)).sm ((h.1.mul g.2).add (((g.1.mul h.2)).mono (Nat.le_of_eq (Nat.add_comm f e)))) ((h.2.mul g.2).mono (Nat.le_succ _))
theorem Sm.inv {e : Nat} {q : Rat} (h : Sm e q) (n : q ≠ 0) : Sm e q⁻¹ := ((Is.self q).inv (fun z => n (Rat.num_eq_zero.mp z))).sm h.2 h.1
theorem Sm.one : Sm 1 1 := ⟨by unfold Bd; decide, by unfold Bd; decide⟩
theorem Sm.zero : Sm 1 0 := ⟨by unfold Bd; decide, by unfold Bd; decide⟩
theorem pow_step (f x : Rat) (e : Nat) : (if e % 2 = 1 then f * x else f) * (x * x) ^ (e / 2) = f * x ^ e := by
  rw [sq_pow]
  by_cases h : e % 2 = 1
  · rw [if_pos h]
    have : e = 2 * (e / 2) + 1 := by omega
    conv => rhs; rw [this, Rat.pow_succ]
    rw [Rat.mul_assoc, Rat.mul_comm x]
  · rw [if_neg h]
    have : e = 2 * (e / 2) := by omega
    conv => rhs; rw [this]
theorem Bd.pow {b : Nat} {n : Int} (h : Bd b n) : ∀ e : Nat, Bd (b * e + 1) (n ^ e)
  | 0 => by unfold Bd; simp
  | e + 1 => by
    rw [Int.pow_succ]
    exact ((Bd.pow h e).mul h).mono (by rw [Nat.mul_succ]; omega)
theorem Is.pow {q : Rat} {n m : Int} (h : Is q n m) : ∀ e : Nat, Is (q ^ e) (n ^ e) (m ^ e)
  | 0 => ⟨by simp, by simp; rfl⟩
  | e + 1 => by
    rw [Rat.pow_succ, Int.pow_succ, Int.pow_succ]
    exact (Is.pow h e).mul h
@[simp] theorem res_rv (q : Rat) (h : Hpp) : res (rv q) h = rv q := rfl
@[simp] theorem pureD_rv (q : Rat) : pureD (rv q) = true := rfl
@[simp] theorem noL_rv (q : Rat) : noL (rv q) = true := rfl
@[simp] theorem frz_rv (n k : Nat) (h : Hpp) (q : Rat) : frz n h (k + 2) (rv q) = rv q := by simp [rv, frz, frzL]
@[simp] theorem item_rv0 (q : Rat) (h : Hpp) : item (rv q) (.int 0) h = some (.int q.num) := by simp [rv]
@[simp] theorem item_rv1 (q : Rat) (h : Hpp) : item (rv q) (.int 1) h = some (.int q.den) := by simp [rv]
theorem rv1 : rv 1 = .tup [.int 1, .int 1] := rfl
theorem rv0 : rv 0 = .tup [.int 0, .int 1] := rfl
end PL
end
section
set_option Elab.async false
set_option linter.all false
set_option maxRecDepth 100000
namespace PL.K00
open PL
def b_is_integer : Ss := (.cons (.ret (.and (.isi (.var 0) [.int]) (.not (.isi (.var 0) [.bool])))) .nil)
def f_is_integer : Fn := ⟨1, 1, b_is_integer, 0⟩
def n_is_integer : List Str := ["value"]
def b_is_ratio : Ss := (.cons (.iff (.or (.not (.isi (.var 0) [.tuple])) (.or (.cmp .ne (.bi .len false (.cons (.var 0) .nil)) (.cst (.int 2))) (.not (.bi .all false (.cons (.comp false (.call 0 (.cons (.var 1) .nil)) (.name 1) (.of (.var 0)) .nil [1]) .nil))))) (.cons (.ret (.cst (.bl false))) .nil) .nil) (.cons (.ret (.and (.cmp .gt (.idx (.var 0) (.cst (.int 1))) (.cst (.int 0))) (.cmp .eq (.call 2 (.cons (.idx (.var 0) (.cst (.int 0))) (.cons (.idx (.var 0) (.cst (.int 1))) .nil))) (.cst (.int 1))))) .nil))
def f_is_ratio : Fn := ⟨1, 2, b_is_ratio, 0⟩
def n_is_ratio : List Str := ["value", "item"]
def b_divisor : Ss := (.cons (.asg (.tup (.cons (.name 0) (.cons (.name 1) .nil))) (.tup (.cons (.bi .abs false (.cons (.var 0) .nil)) (.cons (.bi .abs false (.cons (.var 1) .nil)) .nil)))) (.cons (.whl (.cmp .gt (.var 1) (.cst (.int 0))) (.cons (.asg (.tup (.cons (.name 0) (.cons (.name 1) .nil))) (.tup (.cons (.var 1) (.cons (.bin false .mod (.var 0) (.var 1)) .nil)))) .nil)) (.cons (.ret (.var 0)) .nil)))
def f_divisor : Fn := ⟨2, 2, b_divisor, 0⟩
def n_divisor : List Str := ["one", "other"]
def b_make : Ss := (.cons (.iff (.cmp .eq (.var 1) (.cst (.int 0))) (.cons (.raise 0) .nil) .nil) (.cons (.asg (.name 2) (.call 2 (.cons (.var 0) (.cons (.var 1) .nil)))) (.cons (.iff (.cmp .lt (.var 1) (.cst (.int 0))) (.cons (.asg (.name 2) (.neg (.var 2))) .nil) .nil) (.cons (.ret (.tup (.cons (.bin false .fdiv (.var 0) (.var 2)) (.cons (.bin false .fdiv (.var 1) (.var 2)) .nil)))) .nil))))
def f_make : Fn := ⟨2, 3, b_make, 0⟩
def n_make : List Str := ["above", "below", "common"]
def b_of : Ss := (.cons (.ret (.tup (.cons (.var 0) (.cons (.cst (.int 1)) .nil)))) .nil)
def f_of : Fn := ⟨1, 1, b_of, 0⟩
def n_of : List Str := ["integer"]
def b_add : Ss := (.cons (.ret (.call 3 (.cons (.bin false .add (.bin false .mul (.idx (.var 0) (.cst (.int 0))) (.idx (.var 1) (.cst (.int 1)))) (.bin false .mul (.idx (.var 1) (.cst (.int 0))) (.idx (.var 0) (.cst (.int 1))))) (.cons (.bin false .mul (.idx (.var 0) (.cst (.int 1))) (.idx (.var 1) (.cst (.int 1)))) .nil)))) .nil)
def f_add : Fn := ⟨2, 2, b_add, 0⟩
def n_add : List Str := ["one", "other"]
def b_subtract : Ss := (.cons (.ret (.call 3 (.cons (.bin false .sub (.bin false .mul (.idx (.var 0) (.cst (.int 0))) (.idx (.var 1) (.cst (.int 1)))) (.bin false .mul (.idx (.var 1) (.cst (.int 0))) (.idx (.var 0) (.cst (.int 1))))) (.cons (.bin false .mul (.idx (.var 0) (.cst (.int 1))) (.idx (.var 1) (.cst (.int 1)))) .nil)))) .nil)
def f_subtract : Fn := ⟨2, 2, b_subtract, 0⟩
def n_subtract : List Str := ["one", "other"]
def b_multiply : Ss := (.cons (.ret (.call 3 (.cons (.bin false .mul (.idx (.var 0) (.cst (.int 0))) (.idx (.var 1) (.cst (.int 0)))) (.cons (.bin false .mul (.idx (.var 0) (.cst (.int 1))) (.idx (.var 1) (.cst (.int 1)))) .nil)))) .nil)
def f_multiply : Fn := ⟨2, 2, b_multiply, 0⟩
def n_multiply : List Str := ["one", "other"]
def b_divide : Ss := (.cons (.iff (.cmp .eq (.idx (.var 1) (.cst (.int 0))) (.cst (.int 0))) (.cons (.raise 0) .nil) .nil) (.cons (.ret (.call 3 (.cons (.bin false .mul (.idx (.var 0) (.cst (.int 0))) (.idx (.var 1) (.cst (.int 1)))) (.cons (.bin false .mul (.idx (.var 0) (.cst (.int 1))) (.idx (.var 1) (.cst (.int 0)))) .nil)))) .nil))
def f_divide : Fn := ⟨2, 2, b_divide, 0⟩
def n_divide : List Str := ["one", "other"]
def b_power : Ss := (.cons (.iff (.cmp .lt (.var 1) (.cst (.int 0))) (.cons (.ret (.call 9 (.cons (.call 8 (.cons (.glb "ONE" (.tup [(.int 1), (.int 1)])) (.cons (.var 0) .nil))) (.cons (.neg (.var 1)) .nil)))) .nil) .nil) (.cons (.asg (.name 2) (.glb "ONE" (.tup [(.int 1), (.int 1)]))) (.cons (.whl (.cmp .gt (.var 1) (.cst (.int 0))) (.cons (.iff (.cmp .eq (.bin false .mod (.var 1) (.cst (.int 2))) (.cst (.int 1))) (.cons (.asg (.name 2) (.call 7 (.cons (.var 2) (.cons (.var 0) .nil)))) .nil) .nil) (.cons (.asg (.name 0) (.call 7 (.cons (.var 0) (.cons (.var 0) .nil)))) (.cons (.aug 1 .fdiv (.cst (.int 2))) .nil)))) (.cons (.ret (.var 2)) .nil))))
def f_power : Fn := ⟨2, 3, b_power, 0⟩
def n_power : List Str := ["number", "exponent", "found"]
def b_less : Ss := (.cons (.ret (.cmp .lt (.bin false .mul (.idx (.var 0) (.cst (.int 0))) (.idx (.var 1) (.cst (.int 1)))) (.bin false .mul (.idx (.var 1) (.cst (.int 0))) (.idx (.var 0) (.cst (.int 1)))))) .nil)
def f_less : Fn := ⟨2, 2, b_less, 0⟩
def n_less : List Str := ["one", "other"]
def b_negative : Ss := (.cons (.ret (.tup (.cons (.neg (.idx (.var 0) (.cst (.int 0)))) (.cons (.idx (.var 0) (.cst (.int 1))) .nil)))) .nil)
def f_negative : Fn := ⟨1, 1, b_negative, 0⟩
def n_negative : List Str := ["number"]
def b_sign : Ss := (.cons (.ret (.ite (.cmp .gt (.idx (.var 0) (.cst (.int 0))) (.cst (.int 0))) (.cst (.int 1)) (.ite (.cmp .lt (.idx (.var 0) (.cst (.int 0))) (.cst (.int 0))) (.neg (.cst (.int 1))) (.cst (.int 0))))) .nil)
def f_sign : Fn := ⟨1, 1, b_sign, 0⟩
def n_sign : List Str := ["number"]
def b_total : Ss := (.cons (.asg (.name 1) (.glb "ZERO" (.tup [(.int 0), (.int 1)]))) (.cons (.for_ (.name 2) (.of (.var 0)) (.cons (.asg (.name 1) (.call 5 (.cons (.var 1) (.cons (.var 2) .nil)))) .nil)) (.cons (.ret (.var 1)) .nil)))
def f_total : Fn := ⟨1, 3, b_total, 0⟩
def n_total : List Str := ["numbers", "found", "number"]
def b_dot : Ss := (.cons (.asg (.name 2) (.glb "ZERO" (.tup [(.int 0), (.int 1)]))) (.cons (.for_ (.tup (.cons (.name 3) (.cons (.name 4) .nil))) (.zip (.var 0) (.var 1)) (.cons (.asg (.name 2) (.call 5 (.cons (.var 2) (.cons (.call 7 (.cons (.var 3) (.cons (.var 4) .nil))) .nil)))) .nil)) (.cons (.ret (.var 2)) .nil)))
def f_dot : Fn := ⟨2, 5, b_dot, 0⟩
def n_dot : List Str := ["one", "other", "found", "left", "right"]
def b__law_tape : Ss := (.cons (.asg (.name 1) (.cst (.int 7))) (.cons (.for_ (.name 2) (.of (.var 0)) (.cons (.asg (.name 1) (.bin false .mod (.bi .int false (.cons (.bin false .add (.bin false .mul (.var 1) (.cst (.int 31))) (.var 2)) .nil)) (.cst (.int 1000003)))) .nil)) (.cons (.ret (.lst true (.cons (.comp true (.bi .abs false (.cons (.bi .int false (.cons (.var 2) .nil)) .nil)) (.name 2) (.of (.var 0)) .nil [2]) (.cons (.bin true .add (.var 1) (.cst (.int 1))) .nil)))) .nil)))
def f__law_tape : Fn := ⟨1, 3, b__law_tape, 2⟩
def n__law_tape : List Str := ["script", "seed", "cell"]
def b__law_draw : Ss := (.cons (.asg (.name 2) (.idx (.var 0) (.cst (.int 0)))) (.cons (.whl (.and (.cmp .gt (.bi .len false (.cons (.var 2) .nil)) (.cst (.int 0))) (.cmp .eq (.idx (.var 2) (.cst (.int 0))) (.cst (.int 0)))) (.cons (.exp (.mth .pop (.var 2) (.cons (.cst (.int 0)) .nil))) .nil)) (.cons (.iff (.cmp .gt (.bi .len false (.cons (.var 2) .nil)) (.cst (.int 0))) (.cons (.asg (.name 3) (.idx (.var 2) (.cst (.int 0)))) (.cons (.asg (.sub (.var 2) (.cst (.int 0))) (.bin false .fdiv (.var 3) (.var 1))) (.cons (.ret (.bin false .mod (.bi .int false (.cons (.var 3) .nil)) (.var 1))) .nil))) .nil) (.cons (.asg (.sub (.var 0) (.cst (.int 1))) (.bin true .mod (.bi .int false (.cons (.bin false .add (.bin false .mul (.idx (.var 0) (.cst (.int 1))) (.cst (.int 48271))) (.cst (.int 12345))) .nil)) (.cst (.int 2147483647)))) (.cons (.ret (.bin false .mod (.bi .int false (.cons (.bin false .fdiv (.idx (.var 0) (.cst (.int 1))) (.cst (.int 64))) .nil)) (.var 1))) .nil)))))
def f__law_draw : Fn := ⟨2, 4, b__law_draw, 2⟩
def n__law_draw : List Str := ["tape", "many", "cells", "number"]
def b__law_same : Ss := (.cons (.iff (.isN false (.var 1)) (.cons (.ret (.isN false (.var 0))) .nil) .nil) (.cons (.iff (.isi (.var 1) [.bool]) (.cons (.ret (.and (.isi (.var 0) [.bool]) (.cmp .eq (.var 0) (.var 1)))) .nil) .nil) (.cons (.iff (.isi (.var 1) [.tuple, .list]) (.cons (.iff (.or (.cmp .ne (.isi (.var 1) [.tuple]) (.isi (.var 0) [.tuple])) (.cmp .ne (.isi (.var 1) [.list]) (.isi (.var 0) [.list]))) (.cons (.ret (.cst (.bl false))) .nil) .nil) (.cons (.ret (.and (.cmp .eq (.bi .len false (.cons (.var 0) .nil)) (.bi .len false (.cons (.var 1) .nil))) (.bi .all false (.cons (.comp false (.call 17 (.cons (.idx (.var 0) (.var 2)) (.cons (.idx (.var 1) (.var 2)) .nil))) (.name 2) (.range1 (.bi .len false (.cons (.var 1) .nil))) .nil [2]) .nil)))) .nil)) .nil) (.cons (.iff (.isi (.var 1) [.str]) (.cons (.ret (.and (.isi (.var 0) [.str]) (.cmp .eq (.var 0) (.var 1)))) .nil) .nil) (.cons (.ret (.and (.isi (.var 0) [.int]) (.and (.not (.isi (.var 0) [.bool])) (.cmp .eq (.var 0) (.var 1))))) .nil)))))
def f__law_same : Fn := ⟨2, 3, b__law_same, 0⟩
def n__law_same : List Str := ["actual", "due", "k"]
def b__law_whole : Ss := (.cons (.asg (.name 1) (.call 16 (.cons (.var 0) (.cons (.cst (.int 4)) .nil)))) (.cons (.iff (.cmp .eq (.var 1) (.cst (.int 0))) (.cons (.ret (.bin false .sub (.call 16 (.cons (.var 0) (.cons (.cst (.int 7)) .nil))) (.cst (.int 3)))) .nil) .nil) (.cons (.iff (.cmp .eq (.var 1) (.cst (.int 1))) (.cons (.ret (.bin false .sub (.call 16 (.cons (.var 0) (.cons (.cst (.int 2001)) .nil))) (.cst (.int 1000)))) .nil) .nil) (.cons (.asg (.name 2) (.cst (.int 1))) (.cons (.for_ (.name 3) (.range1 (.bin false .mul (.cst (.int 2)) (.var 1))) (.cons (.asg (.name 2) (.bin false .add (.bin false .mul (.var 2) (.cst (.int 1009))) (.call 16 (.cons (.var 0) (.cons (.cst (.int 1009)) .nil))))) .nil)) (.cons (.ret (.ite (.cmp .eq (.call 16 (.cons (.var 0) (.cons (.cst (.int 2)) .nil))) (.cst (.int 0))) (.var 2) (.neg (.var 2)))) .nil))))))
def f__law_whole : Fn := ⟨1, 4, b__law_whole, 2⟩
def n__law_whole : List Str := ["tape", "kind", "number", "turn"]
def b__law_shared : Ss := (.cons (.asg (.tup (.cons (.name 0) (.cons (.name 1) .nil))) (.tup (.cons (.bi .abs false (.cons (.var 0) .nil)) (.cons (.bi .abs false (.cons (.var 1) .nil)) .nil)))) (.cons (.whl (.cmp .gt (.var 1) (.cst (.int 0))) (.cons (.asg (.tup (.cons (.name 0) (.cons (.name 1) .nil))) (.tup (.cons (.var 1) (.cons (.bin false .mod (.var 0) (.var 1)) .nil)))) .nil)) (.cons (.ret (.var 0)) .nil)))
def f__law_shared : Fn := ⟨2, 2, b__law_shared, 0⟩
def n__law_shared : List Str := ["one", "other"]
def b__law_is : Ss := (.cons (.iff (.or (.not (.isi (.var 0) [.tuple])) (.or (.cmp .ne (.bi .len false (.cons (.var 0) .nil)) (.cst (.int 2))) (.not (.bi .all false (.cons (.comp false (.and (.isi (.var 3) [.int]) (.not (.isi (.var 3) [.bool]))) (.name 3) (.of (.var 0)) .nil [3]) .nil))))) (.cons (.ret (.cst (.bl false))) .nil) .nil) (.cons (.ret (.and (.cmp .gt (.idx (.var 0) (.cst (.int 1))) (.cst (.int 0))) (.and (.cmp .eq (.call 19 (.cons (.idx (.var 0) (.cst (.int 0))) (.cons (.idx (.var 0) (.cst (.int 1))) .nil))) (.cst (.int 1))) (.cmp .eq (.bin false .mul (.idx (.var 0) (.cst (.int 0))) (.var 2)) (.bin false .mul (.var 1) (.idx (.var 0) (.cst (.int 1)))))))) .nil))
def f__law_is : Fn := ⟨3, 4, b__law_is, 0⟩
def n__law_is : List Str := ["told", "above", "below", "item"]
def b__law_refused : Ss := (.cons (.tr (.cons (.exp (.callv 0 (.cons (.var 1) (.cons (.var 2) .nil)))) .nil) (.cons 0 (.bl true) .nil)) (.cons (.ret (.cst (.bl false))) .nil))
def f__law_refused : Fn := ⟨3, 3, b__law_refused, 0⟩
def n__law_refused : List Str := ["do", "one", "other"]
def b__law_powers : Ss := (.cons (.asg (.tup (.cons (.name 2) (.cons (.name 3) .nil))) (.tup (.cons (.cst (.int 1)) (.cons (.cst (.int 1)) .nil)))) (.cons (.for_ (.name 1) (.range1 (.cst (.int 6))) (.cons (.iff (.not (.call 20 (.cons (.call 9 (.cons (.var 0) (.cons (.var 1) .nil))) (.cons (.var 2) (.cons (.var 3) .nil))))) (.cons (.ret (.cst (.bl false))) .nil) .nil) (.cons (.iff (.and (.cmp .eq (.idx (.var 0) (.cst (.int 0))) (.cst (.int 0))) (.cmp .gt (.var 1) (.cst (.int 0)))) (.cons (.iff (.not (.call 21 (.cons (.cst (.fn 9)) (.cons (.var 0) (.cons (.neg (.var 1)) .nil))))) (.cons (.ret (.cst (.bl false))) .nil) .nil) .nil) (.cons (.iff (.not (.call 20 (.cons (.call 9 (.cons (.var 0) (.cons (.neg (.var 1)) .nil))) (.cons (.var 3) (.cons (.var 2) .nil))))) (.cons (.ret (.cst (.bl false))) .nil) .nil) .nil)) (.cons (.asg (.tup (.cons (.name 2) (.cons (.name 3) .nil))) (.tup (.cons (.bin false .mul (.var 2) (.idx (.var 0) (.cst (.int 0)))) (.cons (.bin false .mul (.var 3) (.idx (.var 0) (.cst (.int 1)))) .nil)))) .nil)))) (.cons (.ret (.cst (.bl true))) .nil)))
def f__law_powers : Fn := ⟨1, 4, b__law_powers, 0⟩
def n__law_powers : List Str := ["one", "exponent", "above", "below"]
def b__law_odd : Ss := (.cons (.asg (.name 0) (.lst false (.cons (.tup (.cons (.cst (.int 3)) (.cons (.cst (.bl true)) (.cons (.cst (.bl false)) .nil)))) (.cons (.tup (.cons (.neg (.cst (.int 3))) (.cons (.cst (.bl true)) (.cons (.cst (.bl false)) .nil)))) (.cons (.tup (.cons (.cst (.bl true)) (.cons (.cst (.bl false)) (.cons (.cst (.bl false)) .nil)))) (.cons (.tup (.cons (.cst (.str "1")) (.cons (.cst (.bl false)) (.cons (.cst (.bl false)) .nil)))) (.cons (.tup (.cons (.cst .non) (.cons (.cst (.bl false)) (.cons (.cst (.bl false)) .nil)))) .nil))))))) (.cons (.asg (.name 0) (.bin false .add (.var 0) (.lst false (.cons (.tup (.cons (.tup (.cons (.cst (.int 1)) (.cons (.cst (.int 2)) .nil))) (.cons (.cst (.bl false)) (.cons (.cst (.bl true)) .nil)))) (.cons (.tup (.cons (.tup (.cons (.cst (.int 0)) (.cons (.cst (.int 1)) .nil))) (.cons (.cst (.bl false)) (.cons (.cst (.bl true)) .nil)))) (.cons (.tup (.cons (.tup (.cons (.cst (.int 0)) (.cons (.cst (.int 2)) .nil))) (.cons (.cst (.bl false)) (.cons (.cst (.bl false)) .nil)))) (.cons (.tup (.cons (.tup (.cons (.cst (.int 2)) (.cons (.cst (.int 4)) .nil))) (.cons (.cst (.bl false)) (.cons (.cst (.bl false)) .nil)))) (.cons (.tup (.cons (.tup (.cons (.cst (.int 1)) (.cons (.neg (.cst (.int 2))) .nil))) (.cons (.cst (.bl false)) (.cons (.cst (.bl false)) .nil)))) .nil)))))))) (.cons (.asg (.name 0) (.bin false .add (.var 0) (.lst false (.cons (.tup (.cons (.tup (.cons (.cst (.int 1)) (.cons (.cst (.int 0)) .nil))) (.cons (.cst (.bl false)) (.cons (.cst (.bl false)) .nil)))) (.cons (.tup (.cons (.tup (.cons (.cst (.int 1)) (.cons (.cst (.bl true)) .nil))) (.cons (.cst (.bl false)) (.cons (.cst (.bl false)) .nil)))) (.cons (.tup (.cons (.lst false (.cons (.cst (.int 1)) (.cons (.cst (.int 2)) .nil))) (.cons (.cst (.bl false)) (.cons (.cst (.bl false)) .nil)))) (.cons (.tup (.cons (.tup (.cons (.cst (.int 1)) .nil)) (.cons (.cst (.bl false)) (.cons (.cst (.bl false)) .nil)))) (.cons (.tup (.cons (.tup (.cons (.cst (.int 1)) (.cons (.cst (.int 2)) (.cons (.cst (.int 1)) .nil)))) (.cons (.cst (.bl false)) (.cons (.cst (.bl false)) .nil)))) .nil)))))))) (.cons (.ret (.bi .all false (.cons (.comp false (.and (.call 17 (.cons (.call 0 (.cons (.var 1) .nil)) (.cons (.var 2) .nil))) (.call 17 (.cons (.call 1 (.cons (.var 1) .nil)) (.cons (.var 3) .nil)))) (.tup (.cons (.name 1) (.cons (.name 2) (.cons (.name 3) .nil)))) (.of (.var 0)) .nil [1, 2, 3]) .nil))) .nil))))
def f__law_odd : Fn := ⟨0, 4, b__law_odd, 0⟩
def n__law_odd : List Str := ["rows", "value", "one", "other"]
def b_law : Ss := (.cons (.asg (.name 1) (.call 15 (.cons (.var 0) .nil))) (.cons (.asg (.name 2) (.lst true .nil)) (.cons (.for_ (.name 3) (.range1 (.bin false .add (.cst (.int 2)) (.call 16 (.cons (.var 1) (.cons (.cst (.int 4)) .nil))))) (.cons (.asg (.tup (.cons (.name 12) (.cons (.name 7) .nil))) (.tup (.cons (.call 18 (.cons (.var 1) .nil)) (.cons (.call 18 (.cons (.var 1) .nil)) .nil)))) (.cons (.exp (.mth .append (.var 2) (.cons (.tup (.cons (.var 12) (.cons (.ite (.cmp .ne (.var 7) (.cst (.int 0))) (.var 7) (.cst (.int 1))) .nil))) .nil))) .nil))) (.cons (.asg (.name 4) (.comp false (.call 3 (.cons (.var 12) (.cons (.var 7) .nil))) (.tup (.cons (.name 12) (.cons (.name 7) .nil))) (.of (.var 2)) .nil [12, 7])) (.cons (.iff (.not (.bi .all false (.cons (.comp false (.call 20 (.cons (.var 17) (.cons (.var 12) (.cons (.var 7) .nil)))) (.tup (.cons (.name 17) (.cons (.tup (.cons (.name 12) (.cons (.name 7) .nil))) .nil))) (.zip (.var 4) (.var 2)) .nil [17, 12, 7]) .nil))) (.cons (.ret (.cst (.bl false))) .nil) .nil) (.cons (.asg (.tup (.cons (.name 5) (.cons (.name 6) (.cons (.name 7) .nil)))) (.tup (.cons (.cst (.int 0)) (.cons (.cst (.int 0)) (.cons (.cst (.int 1)) .nil))))) (.cons (.for_ (.tup (.cons (.name 8) (.cons (.name 9) .nil))) (.enum (.var 4)) (.cons (.asg (.name 10) (.idx (.var 4) (.bin false .sub (.var 8) (.cst (.int 1))))) (.cons (.asg (.tup (.cons (.tup (.cons (.name 13) (.cons (.name 14) .nil))) (.cons (.tup (.cons (.name 15) (.cons (.name 16) .nil))) .nil))) (.tup (.cons (.var 9) (.cons (.var 10) .nil)))) (.cons (.asg (.name 11) (.lst false (.cons (.tup (.cons (.call 5 (.cons (.var 9) (.cons (.var 10) .nil))) (.cons (.bin false .add (.bin false .mul (.var 13) (.var 16)) (.bin false .mul (.var 15) (.var 14))) (.cons (.bin false .mul (.var 14) (.var 16)) .nil)))) (.cons (.tup (.cons (.call 6 (.cons (.var 9) (.cons (.var 10) .nil))) (.cons (.bin false .sub (.bin false .mul (.var 13) (.var 16)) (.bin false .mul (.var 15) (.var 14))) (.cons (.bin false .mul (.var 14) (.var 16)) .nil)))) .nil)))) (.cons (.asg (.name 11) (.bin false .add (.var 11) (.lst false (.cons (.tup (.cons (.call 7 (.cons (.var 9) (.cons (.var 10) .nil))) (.cons (.bin false .mul (.var 13) (.var 15)) (.cons (.bin false .mul (.var 14) (.var 16)) .nil)))) (.cons (.tup (.cons (.call 11 (.cons (.var 9) .nil)) (.cons (.neg (.var 13)) (.cons (.var 14) .nil)))) (.cons (.tup (.cons (.call 4 (.cons (.var 13) .nil)) (.cons (.var 13) (.cons (.cst (.int 1)) .nil)))) .nil)))))) (.cons (.iff (.cmp .ne (.var 15) (.cst (.int 0))) (.cons (.asg (.name 11) (.bin false .add (.var 11) (.lst false (.cons (.tup (.cons (.call 8 (.cons (.var 9) (.cons (.var 10) .nil))) (.cons (.bin false .mul (.var 13) (.var 16)) (.cons (.bin false .mul (.var 14) (.var 15)) .nil)))) .nil)))) .nil) (.cons (.iff (.not (.call 21 (.cons (.cst (.fn 8)) (.cons (.var 9) (.cons (.var 10) .nil))))) (.cons (.ret (.cst (.bl false))) .nil) .nil) .nil)) (.cons (.iff (.not (.bi .all false (.cons (.comp false (.call 20 (.cons (.var 17) (.cons (.var 12) (.cons (.var 18) .nil)))) (.tup (.cons (.name 17) (.cons (.name 12) (.cons (.name 18) .nil)))) (.of (.var 11)) .nil [17, 12, 18]) .nil))) (.cons (.ret (.cst (.bl false))) .nil) .nil) (.cons (.iff (.or (.not (.call 17 (.cons (.call 10 (.cons (.var 9) (.cons (.var 10) .nil))) (.cons (.cmp .lt (.bin false .mul (.var 13) (.var 16)) (.bin false .mul (.var 15) (.var 14))) .nil)))) (.not (.call 17 (.cons (.call 12 (.cons (.var 9) .nil)) (.cons (.ite (.cmp .gt (.var 13) (.cst (.int 0))) (.cst (.int 1)) (.ite (.cmp .lt (.var 13) (.cst (.int 0))) (.neg (.cst (.int 1))) (.cst (.int 0)))) .nil))))) (.cons (.ret (.cst (.bl false))) .nil) .nil) (.cons (.iff (.or (.not (.call 17 (.cons (.call 2 (.cons (.var 13) (.cons (.var 15) .nil))) (.cons (.call 19 (.cons (.var 13) (.cons (.var 15) .nil))) .nil)))) (.or (.not (.call 21 (.cons (.cst (.fn 3)) (.cons (.var 13) (.cons (.cst (.int 0)) .nil))))) (.not (.call 22 (.cons (.var 9) .nil))))) (.cons (.ret (.cst (.bl false))) .nil) .nil) (.cons (.asg (.tup (.cons (.name 5) (.cons (.name 6) (.cons (.name 7) .nil)))) (.tup (.cons (.bin false .add (.bin false .mul (.bin false .mul (.var 5) (.var 14)) (.var 16)) (.bin false .mul (.bin false .mul (.var 13) (.var 16)) (.var 7))) (.cons (.bin false .add (.bin false .mul (.bin false .mul (.var 6) (.var 14)) (.var 16)) (.bin false .mul (.bin false .mul (.var 13) (.var 15)) (.var 7))) (.cons (.bin false .mul (.bin false .mul (.var 7) (.var 14)) (.var 16)) .nil))))) .nil)))))))))) (.cons (.iff (.or (.not (.call 20 (.cons (.call 13 (.cons (.var 4) .nil)) (.cons (.var 5) (.cons (.var 7) .nil))))) (.not (.call 20 (.cons (.call 14 (.cons (.var 4) (.cons (.bin false .add (.sl false (.var 4) (.cons (.neg (.cst (.int 1))) .nil) .nil) (.sl false (.var 4) .nil (.cons (.neg (.cst (.int 1))) .nil))) .nil))) (.cons (.var 6) (.cons (.var 7) .nil)))))) (.cons (.ret (.cst (.bl false))) .nil) .nil) (.cons (.ret (.and (.call 17 (.cons (.call 13 (.cons (.lst false .nil) .nil)) (.cons (.tup (.cons (.cst (.int 0)) (.cons (.cst (.int 1)) .nil))) .nil))) (.and (.call 17 (.cons (.glb "ZERO" (.tup [(.int 0), (.int 1)])) (.cons (.tup (.cons (.cst (.int 0)) (.cons (.cst (.int 1)) .nil))) .nil))) (.and (.call 17 (.cons (.glb "ONE" (.tup [(.int 1), (.int 1)])) (.cons (.tup (.cons (.cst (.int 1)) (.cons (.cst (.int 1)) .nil))) .nil))) (.call 23 .nil))))) .nil)))))))))
def f_law : Fn := ⟨1, 19, b_law, 0⟩
def n_law : List Str := ["script", "tape", "pairs", "turn", "known", "sums", "both", "below", "k", "one", "other", "rows", "above", "a", "b", "c", "d", "told", "under"]
def fns : List Fn := [f_is_integer, f_is_ratio, f_divisor, f_make, f_of, f_add, f_subtract, f_multiply, f_divide, f_power, f_less, f_negative, f_sign, f_total, f_dot, f__law_tape, f__law_draw, f__law_same, f__law_whole, f__law_shared, f__law_is, f__law_refused, f__law_powers, f__law_odd, f_law]
abbrev i_is_integer : Nat := 0
abbrev i_is_ratio : Nat := 1
abbrev i_divisor : Nat := 2
abbrev i_make : Nat := 3
abbrev i_of : Nat := 4
abbrev i_add : Nat := 5
abbrev i_subtract : Nat := 6
abbrev i_multiply : Nat := 7
abbrev i_divide : Nat := 8
abbrev i_power : Nat := 9
abbrev i_less : Nat := 10
abbrev i_negative : Nat := 11
abbrev i_sign : Nat := 12
abbrev i_total : Nat := 13
abbrev i_dot : Nat := 14
abbrev i__law_tape : Nat := 15
abbrev i__law_draw : Nat := 16
abbrev i__law_same : Nat := 17
abbrev i__law_whole : Nat := 18
abbrev i__law_shared : Nat := 19
abbrev i__law_is : Nat := 20
abbrev i__law_refused : Nat := 21
abbrev i__law_powers : Nat := 22
abbrev i__law_odd : Nat := 23
abbrev i_law : Nat := 24
abbrev x_BadNumber : Nat := 0
def tab : Tab := ⟨["is_integer", "is_ratio", "divisor", "make", "of", "add", "subtract", "multiply", "divide", "power", "less", "negative", "sign", "total", "dot", "_law_tape", "_law_draw", "_law_same", "_law_whole", "_law_shared", "_law_is", "_law_refused", "_law_powers", "_law_odd", "law"], ["BadNumber"], [("ZERO", (.tup [(.int 0), (.int 1)])), ("ONE", (.tup [(.int 1), (.int 1)]))]⟩
end PL.K00
end
section
set_option Elab.async false
set_option linter.all false
set_option maxRecDepth 100000
namespace PL.K00
open PL
theorem gcd_loop (cal : Cal) : ∀ (b a : Nat) (h : Hpp), whl cal (.cmp .gt (.var 1) (.cst (.int 0))) (.cons (.asg (.tup (.cons (.name 0) (.cons (.name 1) .nil))) (.tup (.cons (.var 1) (.cons (.bin false .mod (.var 0) (.var 1)) .nil)))) .nil) [some (.int a), some (.int b)] h = .nx [some (.int (Nat.gcd a b)), some (.int 0)] h := by
  intro b
  induction b using Nat.strongRecOn with
  | ind b ih =>
    intro a h
    rw [whl_eq]
    by_cases hb : b = 0
    · subst hb
      simp
    · have hb' : 0 < b := Nat.pos_of_ne_zero hb
      have e : (a : Int).fmod (b : Int) = ((a % b : Nat) : Int) := by
        rw [Int.fmod_eq_emod_of_nonneg _ (by omega)]; rfl
      simp [hb, hb', e]
      rw [← Int.natCast_emod, ih (a % b) (Nat.mod_lt _ hb') b h]
      rw [Nat.gcd_comm a b, Nat.gcd_rec b a, Nat.gcd_comm]
theorem c_div (k : Nat) (a b : Int) (h : Hpp) : callF fns (k+1) i_divisor [.int a, .int b] h = .ok (.int (Int.gcd a b)) h := by
  rw [callF_some k _ h (fn := f_divisor) rfl]
  simp [runFn, f_divisor, b_divisor, env0, res, pureL, pureD, gcd_loop, fin0, frz, noL]
  rfl
theorem c_make0 (k : Nat) (n : Int) (h : Hpp) : callF fns (k+1) i_make [.int n, .int 0] h = .er x_BadNumber h := by
  rw [callF_some k _ h (fn := f_make) rfl]
  simp [runFn, f_make, b_make, env0, res, pureL, pureD, fin0]
theorem c_make (k : Nat) (n m : Int) (h : Hpp) (hm : m ≠ 0) (bm : Bd 8990 m) : callF fns (k+2) i_make [.int n, .int m] h = .ok (rv (Rat.divInt n m)) h := by
  rw [callF_some (k+1) _ h (fn := f_make) rfl]
  have g0 : 0 < Int.gcd n m := Int.gcd_pos_of_ne_zero_right _ hm
  have bg : Bd 8990 (Int.gcd n m) := by
    refine bm.le ?_
    have := Nat.le_of_dvd (by omega) (Int.gcd_dvd_natAbs_right n m)
    omega
  have d1 : divOk (Int.gcd n m) = true := bg.divOk (by omega) (by decide)
  have d2 : divOk (-(Int.gcd n m : Int)) = true := bg.neg.divOk (by omega) (by decide)
  obtain ⟨e1, e2⟩ := make_num (n := n) hm
  by_cases s : m < 0
  · rw [if_pos s] at e1 e2
    simp [runFn, f_make, b_make, env0, res, pureL, pureD, fin0, hm, s, c_div, d1, d2, frz, frzL, noL, noLs, rv, e1, e2]
  · rw [if_neg s] at e1 e2
    simp [runFn, f_make, b_make, env0, res, pureL, pureD, fin0, hm, s, c_div, d1, d2, frz, frzL, noL, noLs, rv, e1, e2]
theorem c_add (k : Nat) (q p : Rat) (h : Hpp) {e f : Nat} (hq : Sm e q) (hp : Sm f p) (l : e + f ≤ 8990) : callF fns (k+3) i_add [rv q, rv p] h = .ok (rv (q + p)) h := by
  rw [callF_some (k+2) _ h (fn := f_add) rfl]
  have m1 := hq.1.mulOk hp.2 (by omega)
  have m2 := hp.1.mulOk hq.2 (by omega)
  have m3 := hq.2.mulOk hp.2 (by omega)
  have i := (Is.self q).add (Is.self p)
  have c := c_make k (q.num * p.den + p.num * q.den) (q.den * p.den) [] i.1 ((hq.2.mul hp.2).mono l)
  rw [← i.2] at c
  simp only [rv] at c
  simp [runFn, f_add, b_add, env0, res, pureL, pureD, fin0, rv, m1, m2, m3, c, frz, frzL, noL, noLs]
theorem c_sub (k : Nat) (q p : Rat) (h : Hpp) {e f : Nat} (hq : Sm e q) (hp : Sm f p) (l : e + f ≤ 8990) : callF fns (k+3) i_subtract [rv q, rv p] h = .ok (rv (q - p)) h := by
  rw [callF_some (k+2) _ h (fn := f_subtract) rfl]
  have m1 := hq.1.mulOk hp.2 (by omega)
  have m2 := hp.1.mulOk hq.2 (by omega)
  have m3 := hq.2.mulOk hp.2 (by omega)
  have i := (Is.self q).sub (Is.self p)
  have c := c_make k (q.num * p.den - p.num * q.den) (q.den * p.den) [] i.1 ((hq.2.mul hp.2).mono l)
  rw [← i.2] at c
  simp only [rv] at c
  simp [runFn, f_subtract, b_subtract, env0, res, pureL, pureD, fin0, rv, m1, m2, m3, c, frz, frzL, noL, noLs]
theorem c_mul (k : Nat) (q p : Rat) (h : Hpp) {e f : Nat} (hq : Sm e q) (hp : Sm f p) (l : e + f ≤ 8990) : callF fns (k+3) i_multiply [rv q, rv p] h = .ok (rv (q * p)) h := by
  rw [callF_some (k+2) _ h (fn := f_multiply) rfl]
  have m1 := hq.1.mulOk hp.1 (by omega)
  have m3 := hq.2.mulOk hp.2 (by omega)
  have i := (Is.self q).mul (Is.self p)
  have c := c_make k (q.num * p.num) (q.den * p.den) [] i.1 ((hq.2.mul hp.2).mono l)
  rw [← i.2] at c
  simp only [rv] at c
  simp [runFn, f_multiply, b_multiply, env0, res, pureL, pureD, fin0, rv, m1, m3, c, frz, frzL, noL, noLs]
theorem num_ne {q : Rat} (h : q ≠ 0) : q.num ≠ 0 := fun e => h (Rat.num_eq_zero.mp e)
theorem c_quo0 (k : Nat) (q : Rat) (h : Hpp) : callF fns (k+1) i_divide [rv q, rv 0] h = .er x_BadNumber h := by
  rw [callF_some k _ h (fn := f_divide) rfl]
  simp [runFn, f_divide, b_divide, env0, res, pureL, pureD, fin0, rv]
theorem c_quo (k : Nat) (q p : Rat) (h : Hpp) {e f : Nat} (hp0 : p ≠ 0) (hq : Sm e q) (hp : Sm f p) (l : e + f ≤ 8990) : callF fns (k+3) i_divide [rv q, rv p] h = .ok (rv (q / p)) h := by
  rw [callF_some (k+2) _ h (fn := f_divide) rfl]
  have n0 := num_ne hp0
  have m1 := hq.1.mulOk hp.2 (by omega)
  have m3 := hq.2.mulOk hp.1 (by omega)
  have i := (Is.self q).div (Is.self p) n0
  have c := c_make k (q.num * p.den) (q.den * p.num) [] i.1 ((hq.2.mul hp.1).mono l)
  rw [← i.2] at c
  simp only [rv] at c
  simp [runFn, f_divide, b_divide, env0, res, pureL, pureD, fin0, rv, m1, m3, n0, c, frz, frzL, noL, noLs]
theorem c_less (k : Nat) (q p : Rat) (h : Hpp) {e f : Nat} (hq : Sm e q) (hp : Sm f p) (l : e + f ≤ 8990) : callF fns (k+1) i_less [rv q, rv p] h = .ok (.bl (decide (q.num * p.den < p.num * q.den))) h := by
  rw [callF_some k _ h (fn := f_less) rfl]
  have m1 := hq.1.mulOk hp.2 (by omega)
  have m3 := hp.1.mulOk hq.2 (by omega)
  simp [runFn, f_less, b_less, env0, res, pureL, pureD, fin0, rv, m1, m3, frz, frzL, noL, noLs]
theorem c_negative (k : Nat) (q : Rat) (h : Hpp) : callF fns (k+1) i_negative [rv q] h = .ok (rv (-q)) h := by
  rw [callF_some k _ h (fn := f_negative) rfl]
  simp [runFn, f_negative, b_negative, env0, res, pureL, pureD, fin0, rv, frz, frzL, noL, noLs]
theorem c_sign (k : Nat) (q : Rat) (h : Hpp) : callF fns (k+1) i_sign [rv q] h = .ok (.int q.num.sign) h := by
  rw [callF_some k _ h (fn := f_sign) rfl]
  rcases Int.lt_trichotomy q.num 0 with s | s | s
  · have s' : ¬ 0 < q.num := by omega
    simp [runFn, f_sign, b_sign, env0, res, pureL, pureD, fin0, rv, frz, noL, s, s', Int.sign_eq_neg_one_of_neg s]
  · simp [runFn, f_sign, b_sign, env0, res, pureL, pureD, fin0, rv, frz, noL, s]
  · simp [runFn, f_sign, b_sign, env0, res, pureL, pureD, fin0, rv, frz, noL, s, Int.sign_eq_one_of_pos s]
theorem c_of (k : Nat) (n : Int) (h : Hpp) : callF fns (k+1) i_of [.int n] h = .ok (rv (n : Rat)) h := by
  rw [callF_some k _ h (fn := f_of) rfl]
  simp [runFn, f_of, b_of, env0, res, pureL, pureD, fin0, rv, frz, frzL, noL, noLs]
theorem c_shared (k : Nat) (a b : Int) (h : Hpp) : callF fns (k+1) i__law_shared [.int a, .int b] h = .ok (.int (Int.gcd a b)) h := by
  rw [callF_some k _ h (fn := f__law_shared) rfl]
  simp [runFn, f__law_shared, b__law_shared, env0, res, pureL, pureD, gcd_loop, fin0, frz, noL]
  rfl
theorem c_is (k : Nat) (q : Rat) (n m : Int) (h : Hpp) (i : Is q n m) {e f g : Nat} (hq : Sm e q) (hn : Bd f n) (hm : Bd g m) (l : e + f + g < 1000000) : callF fns (k+2) i__law_is [rv q, .int n, .int m] h = .ok (.bl true) h := by
  rw [callF_some (k+1) _ h (fn := f__law_is) rfl]
  have m1 := hq.1.mulOk hm (by omega)
  have m2 := hn.mulOk hq.2 (by omega)
  have d0 : 0 < q.den := Nat.pos_of_ne_zero q.den_nz
  have g1 : Int.gcd q.num q.den = 1 := q.reduced
  have cr := i.cross
  simp [runFn, f__law_is, b__law_is, env0, res, pureL, pureD, fin0, rv, c_shared, cmp1_name, cmp1_nil, isTy, m1, m2, d0, g1, cr, frz, noL, line]
/-! the tape -/
def tp (ns : List Int) (s : Int) (r : Hpp) : Hpp := .lst (ns.map .int) :: .lst [.ref 0, .int s] :: r
theorem drop0 (cal : Cal) (x y : Option D) (s : Int) (r : Hpp) : ∀ ns : List Int, ∃ ns', whl cal (.and (.cmp .gt (.bi .len false (.cons (.var 2) .nil)) (.cst (.int 0))) (.cmp .eq (.idx (.var 2) (.cst (.int 0))) (.cst (.int 0)))) (.cons (.exp (.mth .pop (.var 2) (.cons (.cst (.int 0)) .nil))) .nil) [x, y, some (.ref 0), none] (tp ns s r) = .nx [x, y, some (.ref 0), none] (tp ns' s r)
  | [] => ⟨[], by rw [whl_eq]; simp [tp, doBi, seqOf]⟩
  | n :: ns => by
    by_cases hn : n = 0
    · obtain ⟨ns', e⟩ := drop0 cal x y s r ns
      refine ⟨ns', ?_⟩
      rw [whl_eq]
      subst hn
      simp [tp, doBi, seqOf, item, dicOf, atI, ixN, mtRecv, lstOf, doMt, mtPop, refOf]
      exact e
    · refine ⟨n :: ns, ?_⟩
      rw [whl_eq]
      simp [tp, doBi, seqOf, item, dicOf, atI, ixN, hn]
theorem c_draw (k : Nat) (m : Int) (m1 : 1 ≤ m) (m2 : m ≤ 10000) (ns : List Int) (s : Int) (r : Hpp) : ∃ v ns' s', 0 ≤ v ∧ v < m ∧ callF fns (k+1) i__law_draw [.ref 1, .int m] (tp ns s r) = .ok (.int v) (tp ns' s' r) := by
  have dm : divOk m = true := Bd.divOk (e := 14) (by unfold Bd; omega) (by omega) (by decide)
  have d64 : divOk 64 = true := by decide
  have mz : m ≠ 0 := by omega
  have fm : ∀ x : Int, 0 ≤ x.fmod m ∧ x.fmod m < m := fun x => ⟨Int.fmod_nonneg_of_pos _ (by omega), Int.fmod_lt_of_pos _ (by omega)⟩
  have mk : ∀ x : Int, mulOk x 48271 = true := fun x => mulOk_small (by decide)
  obtain ⟨ns', e⟩ := drop0 (callF fns k) (some (.ref 1)) (some (.int m)) s r ns
  cases ns' with
  | nil =>
    refine ⟨_, [], (s * 48271 + 12345).fmod 2147483647, (fm (((s * 48271 + 12345).fmod 2147483647).fdiv 64)).1, (fm _).2, ?_⟩
    rw [callF_some k _ _ (fn := f__law_draw) rfl]
    have e' := e
    simp only [tp] at e' ⊢
    simp [runFn, f__law_draw, b__law_draw, env0, fin2, item, dicOf, seqOf, atI, ixN, e', doBi, mk, asg, setItem, d64, dm, mz]
  | cons n ns' =>
    refine ⟨_, n.fdiv m :: ns', s, (fm n).1, (fm n).2, ?_⟩
    rw [callF_some k _ _ (fn := f__law_draw) rfl]
    have e' := e
    simp only [tp] at e' ⊢
    simp [runFn, f__law_draw, b__law_draw, env0, fin2, item, dicOf, seqOf, atI, ixN, e', doBi, asg, setItem, dm, mz]
theorem tape_loop (cal : Cal) (a : D) (h : Hpp) : ∀ (is : List Int) (s : Int) (y : Option D), ∃ s' y', forr cal (.name 2) (.cons (.asg (.name 1) (.bin false .mod (.bi .int false (.cons (.bin false .add (.bin false .mul (.var 1) (.cst (.int 31))) (.var 2)) .nil)) (.cst (.int 1000003)))) .nil) [] (is.map D.int) [some a, some (.int s), y] h = .nx [some a, some (.int s'), y'] h
  | [], s, y => ⟨s, y, by simp [forr_nil]⟩
  | i :: is, s, y => by
    obtain ⟨s', y', e⟩ := tape_loop cal a h is ((s * 31 + i).fmod 1000003) (some (.int i))
    refine ⟨s', y', ?_⟩
    have m1 : mulOk s 31 = true := mulOk_small (by decide)
    rw [List.map_cons, forr_cons (ρ1 := [some a, some (.int s), some (.int i)]) _ _ _ _ _ _ _ _ rfl rfl]
    simp [m1, e]
theorem c_tape (k : Nat) (is : List Int) (hl : is.length ≤ 63) : ∃ ns s, callF fns (k+1) i__law_tape [.sc is] [] = .ok (.ref 1) (tp ns s []) := by
  obtain ⟨s', y', e⟩ := tape_loop (callF fns k) (.sc is) [] is 7 none
  refine ⟨is.map fun i => (i.natAbs : Int), s' + 1, ?_⟩
  rw [callF_some k _ _ (fn := f__law_tape) rfl]
  have hm : cmp1 (callF fns k) (.bi .abs false (.cons (.bi .int false (.cons (.var 2) .nil)) .nil)) (.name 2) .nil [] (is.map D.int) [some (.sc is), some (.int s'), none] [] = .ok ((is.map D.int).map fun d => match d with | D.int i => D.int i.natAbs | d => d) [] := by
    refine cmp1_map _ _ _ _ _ _ _ rfl _ fun d hd => ?_
    obtain ⟨i, _, rfl⟩ := List.mem_map.mp hd
    exact ⟨_, rfl, by simp⟩
  have l : is.length ≤ line := by unfold line; omega
  simp [runFn, f__law_tape, b__law_tape, env0, fin2, srcOf, seqOf, heldOf, e, hm, l, tp]
theorem digs (k : Nat) (kd : D) (r : Hpp) : ∀ (ds : List D) (ns : List Int) (s number : Int) (e : Nat) (y : Option D), Bd e number → ∃ v ns' s' y', Bd (e + 10 * ds.length) v ∧
    forr (callF fns (k+1)) (.name 3) (.cons (.asg (.name 2) (.bin false .add (.bin false .mul (.var 2) (.cst (.int 1009))) (.call 16 (.cons (.var 0) (.cons (.cst (.int 1009)) .nil))))) .nil) [] ds [some (.ref 1), some kd, some (.int number), y] (tp ns s r) = .nx [some (.ref 1), some kd, some (.int v), y'] (tp ns' s' r)
  | [], ns, s, number, e, y, hb => ⟨number, ns, s, y, by simpa using hb, by simp [forr_nil]⟩
  | d :: ds, ns, s, number, e, y, hb => by
    obtain ⟨v1, n1, s1, a1, b1, e1⟩ := c_draw k 1009 (by decide) (by decide) ns s r
    have hb1 : Bd (e + 10) (number * 1009 + v1) := by
      unfold Bd at *
      have h1 := Int.natAbs_add_le (number * 1009) v1
      rw [Int.natAbs_mul] at h1
      have h2 : (1009 : Int).natAbs = 1009 := rfl
      rw [h2] at h1
      rw [Nat.pow_add]
      have h3 : 2 ^ 10 = 1024 := rfl
      rw [h3]
      omega
    obtain ⟨v, n2, s2, y2, hb2, e2⟩ := digs k kd r ds n1 s1 (number * 1009 + v1) (e + 10) (some d) hb1
    refine ⟨v, n2, s2, y2, hb2.mono (by simp; omega), ?_⟩
    have m1 : mulOk number 1009 = true := mulOk_small (by decide)
    rw [forr_cons (ρ1 := [some (.ref 1), some kd, some (.int number), some d]) _ _ _ _ _ _ _ _ rfl rfl]
    simp [m1, e1, e2]
/-- some whole number of at most 61 digits -/
theorem c_whole (k : Nat) (ns : List Int) (s : Int) (r : Hpp) : ∃ v ns' s', Bd 61 v ∧ callF fns (k+2) i__law_whole [.ref 1] (tp ns s r) = .ok (.int v) (tp ns' s' r) := by
  obtain ⟨v1, n1, s1, a1, b1, e1⟩ := c_draw k 4 (by decide) (by decide) ns s r
  by_cases h0 : v1 = 0
  · subst h0
    obtain ⟨v2, n2, s2, a2, b2, e2⟩ := c_draw k 7 (by decide) (by decide) n1 s1 r
    refine ⟨v2 - 3, n2, s2, by unfold Bd; omega, ?_⟩
    rw [callF_some (k+1) _ _ (fn := f__law_whole) rfl]
    simp [runFn, f__law_whole, b__law_whole, env0, fin2, e1, e2]
  by_cases h1 : v1 = 1
  · subst h1
    obtain ⟨v2, n2, s2, a2, b2, e2⟩ := c_draw k 2001 (by decide) (by decide) n1 s1 r
    refine ⟨v2 - 1000, n2, s2, by unfold Bd; omega, ?_⟩
    rw [callF_some (k+1) _ _ (fn := f__law_whole) rfl]
    simp [runFn, f__law_whole, b__law_whole, env0, fin2, e1, e2]
  have hn : (2 * v1).toNat ≤ 6 := by omega
  have m2 : mulOk 2 v1 = true := by unfold mulOk; simp
  have sr : ∀ h, srcRange 0 (2 * v1) h = .ok ⟨rangeL 0 (2 * v1).toNat 1, []⟩ h := range0 (by omega) (by omega)
  have hlen : (rangeL 0 (2 * v1).toNat 1).length ≤ 6 := by rw [rangeL_len]; exact hn
  obtain ⟨v, n2, s2, y2, hb2, e2⟩ := digs k (.int v1) r (rangeL 0 (2 * v1).toNat 1) n1 s1 1 1 none (by unfold Bd; decide)
  have hb3 := hb2.mono (f := 61) (by omega)
  obtain ⟨v3, n3, s3, a3, b3, e3⟩ := c_draw k 2 (by decide) (by decide) n2 s2 r
  by_cases h3 : v3 = 0
  · subst h3
    refine ⟨v, n3, s3, hb3, ?_⟩
    rw [callF_some (k+1) _ _ (fn := f__law_whole) rfl]
    simp [runFn, f__law_whole, b__law_whole, env0, fin2, e1, h0, h1, m2, sr, e2, e3]
  · refine ⟨-v, n3, s3, hb3.neg, ?_⟩
    rw [callF_some (k+1) _ _ (fn := f__law_whole) rfl]
    simp [runFn, f__law_whole, b__law_whole, env0, fin2, e1, h0, h1, m2, sr, e2, e3, h3]
theorem pow_loop (k : Nat) (h : Hpp) : ∀ (n e : Nat) (x f : Rat) (b c : Nat), e < 2 ^ n → Sm b x → Sm c f → b * 2 ^ n ≤ 4000 → c + b * 2 ^ n ≤ 8000 + b → ∃ x',
    whl (callF fns (k+3)) (.cmp .gt (.var 1) (.cst (.int 0))) (.cons (.iff (.cmp .eq (.bin false .mod (.var 1) (.cst (.int 2))) (.cst (.int 1))) (.cons (.asg (.name 2) (.call 7 (.cons (.var 2) (.cons (.var 0) .nil)))) .nil) .nil) (.cons (.asg (.name 0) (.call 7 (.cons (.var 0) (.cons (.var 0) .nil)))) (.cons (.aug 1 .fdiv (.cst (.int 2))) .nil))) [some (rv x), some (.int e), some (rv f)] h = .nx [some (rv x'), some (.int 0), some (rv (f * x ^ e))] h
  | 0, e, x, f, b, c, he, hx, hf, l1, l2 => by
    have : e = 0 := by omega
    subst this
    exact ⟨x, by rw [whl_eq]; simp⟩
  | n + 1, e, x, f, b, c, he, hx, hf, l1, l2 => by
    by_cases e0 : e = 0
    · subst e0
      exact ⟨x, by rw [whl_eq]; simp⟩
    · have p2 : 2 ^ (n + 1) = 2 ^ n * 2 := Nat.pow_succ ..
      have p1 : 1 ≤ 2 ^ n := Nat.one_le_two_pow
      have bb : b * 2 ^ (n + 1) = b * 2 ^ n + b * 2 ^ n := by rw [p2, ← Nat.mul_assoc, Nat.mul_two]
      have b1 : b ≤ b * 2 ^ n := Nat.le_mul_of_pos_right _ p1
      have bn : (b + b) * 2 ^ n = b * 2 ^ n + b * 2 ^ n := Nat.add_mul ..
      have hmod : ((e : Int).fmod 2 = 1) ↔ e % 2 = 1 := by
        rw [Int.fmod_eq_emod_of_nonneg _ (by decide)]; omega
      have hdiv : (e : Int).fdiv 2 = ((e / 2 : Nat) : Int) := by
        rw [Int.fdiv_eq_ediv_of_nonneg _ (by decide)]; rfl
      have d2 : divOk 2 = true := by decide
      have e1 : 0 < e := Nat.pos_of_ne_zero e0
      have cm := c_mul k x x h hx hx (by omega)
      by_cases o : e % 2 = 1
      · have cf := c_mul k f x h hf hx (by omega)
        obtain ⟨x', eq⟩ := pow_loop k h n (e / 2) (x * x) (f * x) (b + b) (c + b) (by omega) (hx.mul hx) (hf.mul hx) (by omega) (by omega)
        refine ⟨x', ?_⟩
        have ps := pow_step f x e
        rw [if_pos o] at ps
        rw [whl_eq]
        simp [e1, hmod.mpr o, cf, cm, d2, hdiv]
        rw [← ps]
        exact eq
      · obtain ⟨x', eq⟩ := pow_loop k h n (e / 2) (x * x) f (b + b) c (by omega) (hx.mul hx) hf (by omega) (by omega)
        refine ⟨x', ?_⟩
        have ps := pow_step f x e
        rw [if_neg o] at ps
        have hm0 : ¬ (e : Int).fmod 2 = 1 := fun z => o (hmod.mp z)
        rw [whl_eq]
        simp [e1, hm0, cm, d2, hdiv]
        rw [← ps]
        exact eq
theorem c_power (k : Nat) (x : Rat) (e : Nat) (h : Hpp) {b : Nat} (he : e < 8) (hx : Sm b x) (l : b ≤ 500) : callF fns (k+4) i_power [rv x, .int e] h = .ok (rv (x ^ e)) h := by
  obtain ⟨x', eq⟩ := pow_loop k [] 3 e x 1 b 1 he hx Sm.one (by omega) (by omega)
  rw [Rat.one_mul] at eq
  have r1 : rv 1 = .tup [.int 1, .int 1] := rfl
  rw [r1] at eq
  have ne : ¬ (e : Int) < 0 := by omega
  rw [callF_some (k+3) _ h (fn := f_power) rfl]
  have eq' := eq
  simp only [rv] at eq' ⊢
  simp [runFn, f_power, b_power, env0, res, pureL, pureD, fin0, frz, frzL, noL, noLs, ne, eq']
theorem c_powneg (k : Nat) (x : Rat) (e : Nat) (h : Hpp) {b : Nat} (he : e < 8) (e0 : 0 < e) (x0 : x ≠ 0) (hx : Sm b x) (b1 : 1 ≤ b) (l : b ≤ 500) : callF fns (k+5) i_power [rv x, .int (-(e : Int))] h = .ok (rv (x⁻¹ ^ e)) h := by
  have cd : callF fns (k+4) i_divide [rv 1, rv x] [] = _ := c_quo (k+1) 1 x [] x0 (Sm.one) hx (by omega)
  rw [Rat.div_def, Rat.one_mul, rv1] at cd
  have cp := c_power k x⁻¹ e [] he (hx.inv x0) l
  obtain ⟨y, hy⟩ : ∃ y, y = x⁻¹ := ⟨_, rfl⟩
  rw [← hy] at cd cp ⊢
  obtain ⟨w, hw⟩ : ∃ w, w = y ^ e := ⟨_, rfl⟩
  rw [← hw] at cp ⊢
  have ne : 0 < (e : Int) := by omega
  rw [callF_some (k+4) _ h (fn := f_power) rfl]
  simp [runFn, f_power, b_power, env0, fin0, ne, e0, cd, cp]
theorem c_powneg0 (k : Nat) (e : Nat) (h : Hpp) (e0 : 0 < e) : callF fns (k+2) i_power [rv 0, .int (-(e : Int))] h = .er x_BadNumber h := by
  have cd := c_quo0 k 1 []
  rw [rv1] at cd
  rw [callF_some (k+1) _ h (fn := f_power) rfl]
  simp [runFn, f_power, b_power, env0, fin0, e0, cd]
theorem c_refused (k f : Nat) (a b : D) (h : Hpp) (pa : pureD a = true) (pb : pureD b = true) (ra : ∀ h, res a h = a) (rb : ∀ h, res b h = b) (e : callF fns k f [a, b] [] = .er x_BadNumber []) : callF fns (k+1) i__law_refused [.fn f, a, b] h = .ok (.bl true) h := by
  rw [callF_some k _ h (fn := f__law_refused) rfl]
  have rf : ∀ h, res (.fn f) h = .fn f := fun _ => rfl
  have pf : pureD (.fn f) = true := rfl
  simp [runFn, f__law_refused, b__law_refused, env0, ra, rb, rf, pf, pa, pb, e, fin0]
theorem num0 {x : Rat} (h : x.num = 0) : x = 0 := Rat.num_eq_zero.mp h
theorem powers_loop (k : Nat) (x : Rat) (hx : Sm 61 x) (h : Hpp) : ∀ (n e : Nat) (y : Option D), e + n = 6 → ∃ y' a b,
    forr (callF fns (k+6)) (.name 1) (.cons (.iff (.not (.call 20 (.cons (.call 9 (.cons (.var 0) (.cons (.var 1) .nil))) (.cons (.var 2) (.cons (.var 3) .nil))))) (.cons (.ret (.cst (.bl false))) .nil) .nil) (.cons (.iff (.and (.cmp .eq (.idx (.var 0) (.cst (.int 0))) (.cst (.int 0))) (.cmp .gt (.var 1) (.cst (.int 0)))) (.cons (.iff (.not (.call 21 (.cons (.cst (.fn 9)) (.cons (.var 0) (.cons (.neg (.var 1)) .nil))))) (.cons (.ret (.cst (.bl false))) .nil) .nil) .nil) (.cons (.iff (.not (.call 20 (.cons (.call 9 (.cons (.var 0) (.cons (.neg (.var 1)) .nil))) (.cons (.var 3) (.cons (.var 2) .nil))))) (.cons (.ret (.cst (.bl false))) .nil) .nil) .nil)) (.cons (.asg (.tup (.cons (.name 2) (.cons (.name 3) .nil))) (.tup (.cons (.bin false .mul (.var 2) (.idx (.var 0) (.cst (.int 0)))) (.cons (.bin false .mul (.var 3) (.idx (.var 0) (.cst (.int 1)))) .nil)))) .nil))) [] (rangeL e n 1)
      [some (rv x), y, some (.int (x.num ^ e)), some (.int ((x.den : Int) ^ e))] h = .nx [some (rv x), y', some (.int a), some (.int b)] h
  | 0, e, y, _ => ⟨y, _, _, by
    have : rangeL e 0 1 = [] := rfl
    rw [this, forr_nil]; rfl⟩
  | n + 1, e, y, l => by
    obtain ⟨y', a, b, eq⟩ := powers_loop k x hx h n (e + 1) (some (.int e)) (by omega)
    refine ⟨y', a, b, ?_⟩
    have ip := (Is.self x).pow e
    have bn : Bd 400 (x.num ^ e) := (hx.1.pow e).mono (by omega)
    have bd : Bd 400 ((x.den : Int) ^ e) := (hx.2.pow e).mono (by omega)
    have cp : callF fns (k+6) i_power [rv x, .int e] h = _ := c_power (k+2) x e h (by omega) hx (by omega)
    have m1 : mulOk (x.num ^ e) x.num = true := bn.mulOk hx.1 (by omega)
    have m2 : mulOk ((x.den : Int) ^ e) x.den = true := bd.mulOk hx.2 (by omega)
    have cn : e = 0 ∨ x.num ≠ 0 → ∃ w, callF fns (k+6) i_power [rv x, .int (-(e : Int))] h = .ok (rv w) h ∧ Is w ((x.den : Int) ^ e) (x.num ^ e) := fun z => by
      by_cases e0 : e = 0
      · subst e0
        exact ⟨x ^ 0, cp, by simp; exact ⟨by decide, rfl⟩⟩
      · have x0 := z.resolve_left e0
        exact ⟨_, c_powneg (k+1) x e h (by omega) (by omega) (fun z => x0 (by rw [z]; rfl)) hx (by omega) (by omega), ((Is.self x).inv x0).pow e⟩
    rw [rangeL_succ, forr_cons (ρ1 := [some (rv x), some (.int e), some (.int (x.num ^ e)), some (.int ((x.den : Int) ^ e))]) _ _ _ _ _ _ _ _ rfl rfl]
    rw [Int.pow_succ, Int.pow_succ] at eq
    generalize x ^ e = w at ip cp
    generalize x.num ^ e = A at ip bn m1 cn eq ⊢
    generalize (x.den : Int) ^ e = B at ip bd m2 cn eq ⊢
    have ci : callF fns (k+6) i__law_is [rv w, .int A, .int B] h = _ := c_is (k+4) w _ _ h ip (ip.sm bn bd) bn bd (by omega)
    by_cases x0 : x.num = 0 ∧ 0 < e
    · have xz := num0 x0.1
      have cr : callF fns (k+6) i__law_refused [.fn 9, rv 0, .int (-(e : Int))] h = _ := c_refused (k+5) 9 (rv 0) (.int (-(e : Int))) h rfl rfl (fun _ => rfl) (fun _ => rfl) (c_powneg0 (k+3) e [] x0.2)
      rw [← xz] at cr
      have m3 : mulOk A 0 = true := by rw [← x0.1]; exact m1
      simp [cp, ci, m2, m3, cr, x0.1, x0.2]
      simp [x0.1] at eq
      exact eq
    · obtain ⟨w2, cw, iw⟩ := cn (by omega)
      have ci2 : callF fns (k+6) i__law_is [rv w2, .int B, .int A] h = _ := c_is (k+4) w2 _ _ h iw (iw.sm bd bn) bd bn (by omega)
      by_cases n0 : x.num = 0
      · have e0 : ¬ 0 < e := fun z => x0 ⟨n0, z⟩
        have m3 : mulOk A 0 = true := by rw [← n0]; exact m1
        simp [cp, ci, m2, m3, cw, ci2, n0, e0]
        simp [n0] at eq
        exact eq
      · simp [cp, ci, m1, m2, cw, ci2, n0]
        exact eq
theorem c_powers (k : Nat) (x : Rat) (hx : Sm 61 x) (h : Hpp) : callF fns (k+7) i__law_powers [rv x] h = .ok (.bl true) h := by
  obtain ⟨y', a, b, eq⟩ := powers_loop k x hx [] 6 0 none rfl
  have r6 := range0 (i := 6) (by decide) (by decide) []
  simp at eq
  rw [callF_some (k+6) _ h (fn := f__law_powers) rfl]
  simp [runFn, f__law_powers, b__law_powers, env0, fin0, r6]
  rw [eq]
  simp
end PL.K00
end
section
set_option Elab.async false
set_option linter.all false
set_option maxRecDepth 100000
namespace PL.K00
open PL
theorem c_same_bl (k : Nat) (b : Bool) (h : Hpp) : callF fns (k+1) i__law_same [.bl b, .bl b] h = .ok (.bl true) h := by
  rw [callF_some k _ h (fn := f__law_same) rfl]
  simp [runFn, f__law_same, b__law_same, env0, fin0, isTy]
theorem c_same_int (k : Nat) (b : Int) (h : Hpp) : callF fns (k+1) i__law_same [.int b, .int b] h = .ok (.bl true) h := by
  rw [callF_some k _ h (fn := f__law_same) rfl]
  simp [runFn, f__law_same, b__law_same, env0, fin0, isTy]
theorem c_same_2 (k : Nat) (a b : Int) (h : Hpp) : callF fns (k+2) i__law_same [.tup [.int a, .int b], .tup [.int a, .int b]] h = .ok (.bl true) h := by
  rw [callF_some (k+1) _ h (fn := f__law_same) rfl]
  have r2 : srcRange 0 2 [] = .ok ⟨[.int 0, .int 1], []⟩ [] := range0 (i := 2) (by decide) (by decide) []
  simp [runFn, f__law_same, b__law_same, env0, fin0, isTy, r2, cmp1_name, cmp1_nil, c_same_int, line]
theorem isint (k : Nat) (v : D) (b : Bool) (p : pureD v = true) (r : ∀ h, res v h = v) (t : tyOk v [] = true) (e : (isTy v [] .int && !isTy v [] .bool) = b) (h : Hpp) : callF fns (k+1) i_is_integer [v] h = .ok (.bl b) h := by
  rw [callF_some k _ h (fn := f_is_integer) rfl]
  subst e
  cases h1 : isTy v [] .int <;> simp [runFn, f_is_integer, b_is_integer, env0, fin0, p, r, t, h1]
/-- one row of the odd ones -/
def oddRow (v : D) (i r : Bool) : Prop := ∀ k h, callF fns (k+3) i_is_integer [v] h = .ok (.bl i) h ∧ callF fns (k+3) i_is_ratio [v] h = .ok (.bl r) h
theorem odd_int (i : Int) : oddRow (.int i) true false := fun k h => ⟨isint _ _ _ rfl (fun _ => rfl) rfl rfl h, by
  rw [callF_some (k+2) _ h (fn := f_is_ratio) rfl]
  simp [runFn, f_is_ratio, b_is_ratio, env0, fin0, isTy]⟩
theorem odd_bl (i : Bool) : oddRow (.bl i) false false := fun k h => ⟨isint _ _ _ rfl (fun _ => rfl) rfl rfl h, by
  rw [callF_some (k+2) _ h (fn := f_is_ratio) rfl]
  simp [runFn, f_is_ratio, b_is_ratio, env0, fin0, isTy]⟩
theorem odd_str (i : Str) : oddRow (.str i) false false := fun k h => ⟨isint _ _ _ rfl (fun _ => rfl) rfl rfl h, by
  rw [callF_some (k+2) _ h (fn := f_is_ratio) rfl]
  simp [runFn, f_is_ratio, b_is_ratio, env0, fin0, isTy]⟩
theorem odd_non : oddRow .non false false := fun k h => ⟨isint _ _ _ rfl (fun _ => rfl) rfl rfl h, by
  rw [callF_some (k+2) _ h (fn := f_is_ratio) rfl]
  simp [runFn, f_is_ratio, b_is_ratio, env0, fin0, isTy]⟩
theorem odd_fl : oddRow (.fl [.int 1, .int 2]) false false := fun k h => ⟨isint _ _ _ rfl (fun _ => rfl) rfl rfl h, by
  rw [callF_some (k+2) _ h (fn := f_is_ratio) rfl]
  simp [runFn, f_is_ratio, b_is_ratio, env0, fin0, isTy]⟩
theorem odd_1 : oddRow (.tup [.int 1]) false false := fun k h => ⟨isint _ _ _ rfl (fun _ => rfl) rfl rfl h, by
  rw [callF_some (k+2) _ h (fn := f_is_ratio) rfl]
  simp [runFn, f_is_ratio, b_is_ratio, env0, fin0, isTy]⟩
theorem odd_3 : oddRow (.tup [.int 1, .int 2, .int 1]) false false := fun k h => ⟨isint _ _ _ rfl (fun _ => rfl) rfl rfl h, by
  rw [callF_some (k+2) _ h (fn := f_is_ratio) rfl]
  simp [runFn, f_is_ratio, b_is_ratio, env0, fin0, isTy]⟩
theorem odd_1t : oddRow (.tup [.int 1, .bl true]) false false := fun k h => ⟨isint _ _ _ rfl (fun _ => rfl) rfl rfl h, by
  rw [callF_some (k+2) _ h (fn := f_is_ratio) rfl]
  have e1 : ∀ h, callF fns (k+2) 0 [.int 1] h = .ok (.bl true) h := isint _ _ _ rfl (fun _ => rfl) rfl rfl
  have e2 : ∀ h, callF fns (k+2) 0 [.bl true] h = .ok (.bl false) h := isint _ _ _ rfl (fun _ => rfl) rfl rfl
  simp [runFn, f_is_ratio, b_is_ratio, env0, fin0, isTy, cmp1_name, cmp1_nil, e1, e2, line]⟩
theorem odd_2 (a b : Int) : oddRow (.tup [.int a, .int b]) false (decide (b > 0) && decide (Int.gcd a b = 1)) := fun k h => ⟨isint _ _ _ rfl (fun _ => rfl) rfl rfl h, by
  rw [callF_some (k+2) _ h (fn := f_is_ratio) rfl]
  have e1 : ∀ i h, callF fns (k+2) 0 [.int i] h = .ok (.bl true) h := fun i => isint _ _ _ rfl (fun _ => rfl) rfl rfl
  have e2 : ∀ h, callF fns (k+2) 2 [.int a, .int b] h = .ok (.int (Int.gcd a b)) h := c_div _ a b
  by_cases hb : 0 < b
  · simp [runFn, f_is_ratio, b_is_ratio, env0, fin0, isTy, cmp1_name, cmp1_nil, e1, e2, line, hb]
    by_cases hg : Int.gcd a b = 1
    · simp [hg]
    · have : ¬ ((Int.gcd a b : Int) = 1) := by omega
      simp [hg, this]
  · simp [runFn, f_is_ratio, b_is_ratio, env0, fin0, isTy, cmp1_name, cmp1_nil, e1, e2, line, hb]⟩
end PL.K00
end
section
set_option Elab.async false
set_option linter.all false
set_option maxRecDepth 100000
namespace PL.K00
open PL
theorem c_odd (k : Nat) (h : Hpp) : callF fns (k+4) i__law_odd [] h = .ok (.bl true) h := by
  rw [callF_some (k+3) _ h (fn := f__law_odd) rfl]
  have key : ∀ (v : D) (i r : Bool), oddRow v i r → ∀ (x : Option D), ∃ ρ1, sto (.tup (.cons (.name 1) (.cons (.name 2) (.cons (.name 3) .nil)))) [x, none, none, none] (.tup [v, .bl i, .bl r]) = some ρ1 ∧
      ev (callF fns (k+3)) (.and (.call 17 (.cons (.call 0 (.cons (.var 1) .nil)) (.cons (.var 2) .nil))) (.call 17 (.cons (.call 1 (.cons (.var 1) .nil)) (.cons (.var 3) .nil)))) ρ1 [] = .ok (.bl true) [] := fun v i r o x => by
    refine ⟨[x, some v, some (.bl i), some (.bl r)], by simp [sto, stos], ?_⟩
    have e1 := (o k []).1
    have e2 := (o k []).2
    have s1 : ∀ b, callF fns (k+3) 17 [.bl b, .bl b] [] = .ok (.bl true) [] := fun b => c_same_bl _ b []
    simp [e1, e2, s1]
  have rows : ∀ x, cmp1 (callF fns (k+3)) (.and (.call 17 (.cons (.call 0 (.cons (.var 1) .nil)) (.cons (.var 2) .nil))) (.call 17 (.cons (.call 1 (.cons (.var 1) .nil)) (.cons (.var 3) .nil)))) (.tup (.cons (.name 1) (.cons (.name 2) (.cons (.name 3) .nil)))) .nil []
      [.tup [.int 3, .bl true, .bl false], .tup [.int (-3), .bl true, .bl false], .tup [.bl true, .bl false, .bl false], .tup [.str "1", .bl false, .bl false], .tup [.non, .bl false, .bl false],
       .tup [.tup [.int 1, .int 2], .bl false, .bl true], .tup [.tup [.int 0, .int 1], .bl false, .bl true], .tup [.tup [.int 0, .int 2], .bl false, .bl false], .tup [.tup [.int 2, .int 4], .bl false, .bl false], .tup [.tup [.int 1, .int (-2)], .bl false, .bl false],
       .tup [.tup [.int 1, .int 0], .bl false, .bl false], .tup [.tup [.int 1, .bl true], .bl false, .bl false], .tup [.fl [.int 1, .int 2], .bl false, .bl false], .tup [.tup [.int 1], .bl false, .bl false], .tup [.tup [.int 1, .int 2, .int 1], .bl false, .bl false]] [x, none, none, none] [] = .ok (List.replicate 15 (.bl true)) [] := fun x => by
    refine (cmp1_map _ _ _ _ _ _ (fun _ => .bl true) rfl _ fun d hd => ?_).trans rfl
    simp only [List.mem_cons, List.not_mem_nil, or_false] at hd
    rcases hd with rfl | rfl | rfl | rfl | rfl | rfl | rfl | rfl | rfl | rfl | rfl | rfl | rfl | rfl | rfl
    · exact key _ _ _ (odd_int 3) x
    · exact key _ _ _ (odd_int (-3)) x
    · exact key _ _ _ (odd_bl true) x
    · exact key _ _ _ (odd_str "1") x
    · exact key _ _ _ odd_non x
    · exact key _ _ _ (odd_2 1 2) x
    · exact key _ _ _ (odd_2 0 1) x
    · exact key _ _ _ (odd_2 0 2) x
    · exact key _ _ _ (odd_2 2 4) x
    · exact key _ _ _ (odd_2 1 (-2)) x
    · exact key _ _ _ (odd_2 1 0) x
    · exact key _ _ _ odd_1t x
    · exact key _ _ _ odd_fl x
    · exact key _ _ _ odd_1 x
    · exact key _ _ _ odd_3 x
  simp [runFn, f__law_odd, b__law_odd, env0, fin0, bop, bopL, lstOf, line, rows]
/-- sums of fractions, each not too large -/
def SumOk : Rat → List Rat → Prop
  | f, [] => Sm 4000 f
  | f, q :: r => Sm 4000 f ∧ Sm 4000 q ∧ SumOk (f + q) r
theorem total_loop (k : Nat) (a : D) (h : Hpp) : ∀ (qs : List Rat) (f : Rat) (y : Option D), SumOk f qs → ∃ y',
    forr (callF fns (k+3)) (.name 2) (.cons (.asg (.name 1) (.call 5 (.cons (.var 1) (.cons (.var 2) .nil)))) .nil) [] (qs.map rv) [some a, some (rv f), y] h = .nx [some a, some (rv (qs.foldl (· + ·) f)), y'] h
  | [], f, y, _ => ⟨y, by simp [forr_nil]⟩
  | q :: qs, f, y, o => by
    obtain ⟨o1, o2, o3⟩ := o
    obtain ⟨y', e⟩ := total_loop k a h qs (f + q) (some (rv q)) o3
    have ca := c_add k f q h o1 o2 (by omega)
    refine ⟨y', ?_⟩
    rw [List.map_cons, forr_cons (ρ1 := [some a, some (rv f), some (rv q)]) _ _ _ _ _ _ _ _ rfl rfl]
    rw [List.foldl_cons]
    generalize List.foldl (· + ·) (f + q) qs = z at e ⊢
    generalize f + q = w at e ca
    simp [ca, e]
theorem pure_rvs : ∀ qs : List Rat, pureL (qs.map rv) = true
  | [] => rfl
  | q :: r => by simp [pure_rvs r]
theorem c_total (k : Nat) (qs : List Rat) (h : Hpp) (o : SumOk 0 qs) : callF fns (k+4) i_total [.fl (qs.map rv)] h = .ok (rv (qs.foldl (· + ·) 0)) h := by
  obtain ⟨y', e⟩ := total_loop k (.fl (qs.map rv)) [] qs 0 none o
  rw [rv0] at e
  rw [callF_some (k+3) _ h (fn := f_total) rfl]
  generalize List.foldl (· + ·) 0 qs = z at e ⊢
  simp [runFn, f_total, b_total, env0, fin0, pure_rvs, e]
/-- products of two rows -/
def DotOk : Rat → List Rat → List Rat → Prop
  | f, q :: r, p :: t => Sm 4000 f ∧ Sm 2000 q ∧ Sm 2000 p ∧ DotOk (f + q * p) r t
  | f, _, _ => Sm 4000 f
def dotL : Rat → List Rat → List Rat → Rat
  | f, q :: r, p :: t => dotL (f + q * p) r t
  | f, _, _ => f
theorem dot_loop (k : Nat) (a b : D) (h : Hpp) : ∀ (qs ps : List Rat) (f : Rat) (x y : Option D), DotOk f qs ps → ∃ x' y',
    forr (callF fns (k+3)) (.tup (.cons (.name 3) (.cons (.name 4) .nil))) (.cons (.asg (.name 2) (.call 5 (.cons (.var 2) (.cons (.call 7 (.cons (.var 3) (.cons (.var 4) .nil))) .nil)))) .nil) [] (zipL (qs.map rv) (ps.map rv)) [some a, some b, some (rv f), x, y] h = .nx [some a, some b, some (rv (dotL f qs ps)), x', y'] h
  | [], ps, f, x, y, _ => ⟨x, y, by simp [zipL, forr_nil, dotL]⟩
  | q :: qs, [], f, x, y, _ => ⟨x, y, by simp [zipL, forr_nil, dotL]⟩
  | q :: qs, p :: ps, f, x, y, o => by
    obtain ⟨o1, o2, o3, o4⟩ := o
    obtain ⟨x', y', e⟩ := dot_loop k a b h qs ps (f + q * p) (some (rv q)) (some (rv p)) o4
    have cm := c_mul k q p h o2 o3 (by omega)
    have ca := c_add k f (q * p) h o1 (o2.mul o3) (by omega)
    refine ⟨x', y', ?_⟩
    rw [List.map_cons, List.map_cons, zipL, forr_cons (ρ1 := [some a, some b, some (rv f), some (rv q), some (rv p)]) _ _ _ _ _ _ _ _ rfl (by simp [sto, stos]), dotL]
    generalize dotL (f + q * p) qs ps = z at e ⊢
    generalize f + q * p = w at e ca
    generalize q * p = v at cm ca
    simp [cm, ca, e]
theorem c_dot (k : Nat) (qs ps : List Rat) (h : Hpp) (o : DotOk 0 qs ps) : callF fns (k+4) i_dot [.fl (qs.map rv), .fl (ps.map rv)] h = .ok (rv (dotL 0 qs ps)) h := by
  obtain ⟨x', y', e⟩ := dot_loop k (.fl (qs.map rv)) (.fl (ps.map rv)) [] qs ps 0 none none o
  rw [rv0] at e
  rw [callF_some (k+3) _ h (fn := f_dot) rfl]
  generalize dotL 0 qs ps = z at e ⊢
  simp [runFn, f_dot, b_dot, env0, fin0, pure_rvs, srcZ, zipOf, lsOf, lstOf, heldOf, e]
end PL.K00
end
section
set_option Elab.async false
set_option linter.all false
set_option maxRecDepth 100000
namespace PL
def varR (o : Option (Option D)) (h : Hpp) : R D := match o with
  | some (some d) => .ok d h
  | _ => .no
@[simp] theorem varR_some (d : D) (h : Hpp) : varR (some (some d)) h = .ok d h := rfl
theorem ev_varR (cal : Cal) (i : Nat) (ρ : Env) (h : Hpp) : ev cal (.var i) ρ h = varR ρ[i]? h := by simp only [ev]; rfl
end PL
namespace PL.K00
open PL
def pr (p : Int × Int) : D := .tup [.int p.1, .int p.2]
def good (p : Int × Int) : Prop := p.2 ≠ 0 ∧ Bd 61 p.1 ∧ Bd 61 p.2
def E1 (sc : D) (t x7 x12 : Option D) : Env := [some sc, some (.ref 1), some (.ref 2), t, none, none, none, x7, none, none, none, none, x12, none, none, none, none, none, none]
theorem pairs_loop (k : Nat) (sc : D) : ∀ (ds : List D) (ps : List (Int × Int)) (ns : List Int) (s : Int) (t x7 x12 : Option D), ps.length + ds.length ≤ 100 → ∃ qs ns' s' t' y7 y12, (∀ q ∈ qs, good q) ∧ qs.length = ds.length ∧
    forr (callF fns (k+2)) (.name 3) (.cons (.asg (.tup (.cons (.name 12) (.cons (.name 7) .nil))) (.tup (.cons (.call 18 (.cons (.var 1) .nil)) (.cons (.call 18 (.cons (.var 1) .nil)) .nil)))) (.cons (.exp (.mth .append (.var 2) (.cons (.tup (.cons (.var 12) (.cons (.ite (.cmp .ne (.var 7) (.cst (.int 0))) (.var 7) (.cst (.int 1))) .nil))) .nil))) .nil)) [] ds (E1 sc t x7 x12) (tp ns s [.lst (ps.map pr)]) = .nx (E1 sc t' y7 y12) (tp ns' s' [.lst ((ps ++ qs).map pr)])
  | [], ps, ns, s, t, x7, x12, _ => ⟨[], ns, s, t, x7, x12, by simp, rfl, by simp [forr_nil]⟩
  | d :: ds, ps, ns, s, t, x7, x12, l => by
    obtain ⟨a, n1, s1, ba, e1⟩ := c_whole k ns s [.lst (ps.map pr)]
    obtain ⟨b, n2, s2, bb, e2⟩ := c_whole k n1 s1 [.lst (ps.map pr)]
    have l' : ps.length + (ds.length + 1) ≤ 100 := l
    have ll : ps.length < line := by
      have : line = 16777216 := rfl
      omega
    have step : ∀ b', b' = (if b ≠ 0 then b else 1) → exs (callF fns (k+2)) (.cons (.asg (.tup (.cons (.name 12) (.cons (.name 7) .nil))) (.tup (.cons (.call 18 (.cons (.var 1) .nil)) (.cons (.call 18 (.cons (.var 1) .nil)) .nil)))) (.cons (.exp (.mth .append (.var 2) (.cons (.tup (.cons (.var 12) (.cons (.ite (.cmp .ne (.var 7) (.cst (.int 0))) (.var 7) (.cst (.int 1))) .nil))) .nil))) .nil)) (E1 sc (some d) x7 x12) (tp ns s [.lst (ps.map pr)])
        = .nx (E1 sc (some d) (some (.int b)) (some (.int a))) (tp n2 s2 [.lst ((ps ++ [(a, b')]).map pr)]) := fun b' hb => by
      subst hb
      by_cases b0 : b = 0
      · subst b0
        simp [E1, ev_varR, e1, e2]
        simp [tp, mtRecv, lstOf, doMt, mtAppend, refOf, ll, pr, ev_varR]
      · simp [E1, ev_varR, e1, e2, b0]
        simp [tp, mtRecv, lstOf, doMt, mtAppend, refOf, ll, pr, b0, ev_varR]
    have gb : good (a, if b ≠ 0 then b else 1) := by
      by_cases b0 : b = 0
      · rw [if_neg (by simpa using b0)]; exact ⟨by show (1 : Int) ≠ 0; decide, ba, by show Bd 61 1; unfold Bd; decide⟩
      · rw [if_pos b0]; exact ⟨b0, ba, bb⟩
    obtain ⟨qs, ns', s', t', y7, y12, g, ql, e⟩ := pairs_loop k sc ds (ps ++ [(a, if b ≠ 0 then b else 1)]) n2 s2 (some d) (some (.int b)) (some (.int a)) (by simp; omega)
    refine ⟨(a, if b ≠ 0 then b else 1) :: qs, ns', s', t', y7, y12, fun q hq => ?_, by simp [ql], ?_⟩
    · rcases List.mem_cons.mp hq with rfl | hq
      · exact gb
      · exact g q hq
    · rw [forr_cons (ρ1 := E1 sc (some d) x7 x12) _ _ _ _ _ _ _ _ rfl rfl, step _ rfl, turn_nx, e]
      rw [List.append_assoc]; rfl
/-! the rows of fractions -/
def fr (p : Int × Int) : Rat := Rat.divInt p.1 p.2
theorem fr_is {p : Int × Int} (g : good p) : Is (fr p) p.1 p.2 := ⟨g.1, rfl⟩
theorem fr_sm {p : Int × Int} (g : good p) : Sm 61 (fr p) := (fr_is g).sm g.2.1 g.2.2
theorem known_map (k : Nat) (hl : List (Nat × Cell)) (h : Hpp) (ok : okH hl h = true) (ρ : Env) (hρ : ρ.length = 19) (ps : List (Int × Int)) (g : ∀ p ∈ ps, good p) :
    cmp1 (callF fns (k+2)) (.call 3 (.cons (.var 12) (.cons (.var 7) .nil))) (.tup (.cons (.name 12) (.cons (.name 7) .nil))) .nil hl (ps.map pr) ρ h = .ok ((ps.map fr).map rv) h := by
  induction ps with
  | nil => rw [List.map_nil, cmp1_nil, if_pos ok]; rfl
  | cons p ps ih =>
    have gp := g p List.mem_cons_self
    have cm := c_make k p.1 p.2 h gp.1 (gp.2.2.mono (by decide))
    rw [List.map_cons, cmp1_cons _ _ _ _ _ _ _ _ ((ρ.set 12 (some (.int p.1))).set 7 (some (.int p.2))) _ ok (by simp [pr, sto, stos])]
    have v12 : ((ρ.set 12 (some (.int p.1))).set 7 (some (.int p.2)))[12]? = some (some (.int p.1)) := by
      rw [List.getElem?_set_ne (by decide), List.getElem?_set_self (by omega)]
    have v7 : ((ρ.set 12 (some (.int p.1))).set 7 (some (.int p.2)))[7]? = some (some (.int p.2)) := by
      rw [List.getElem?_set_self (by simp; omega)]
    simp only [evc_nil, R.bind_ok, if_true, ev_call, evs_cons, evs_nil, ev_varR, v12, v7, varR_some]
    rw [show callF fns (k+2) 3 [.int p.1, .int p.2] h = _ from cm]
    simp only [R.bind_ok]
    rw [ih fun q hq => g q (List.mem_cons_of_mem _ hq)]
    rfl
theorem check_map (k : Nat) (hl : List (Nat × Cell)) (h : Hpp) (ok : okH hl h = true) (ρ : Env) (hρ : ρ.length = 19) (ps : List (Int × Int)) (g : ∀ p ∈ ps, good p) :
    cmp1 (callF fns (k+2)) (.call 20 (.cons (.var 17) (.cons (.var 12) (.cons (.var 7) .nil)))) (.tup (.cons (.name 17) (.cons (.tup (.cons (.name 12) (.cons (.name 7) .nil))) .nil))) .nil hl (zipL ((ps.map fr).map rv) (ps.map pr)) ρ h = .ok (List.replicate ps.length (.bl true)) h := by
  induction ps with
  | nil => simp [zipL, cmp1_nil, ok]
  | cons p ps ih =>
    have gp := g p List.mem_cons_self
    have ci := c_is k (fr p) p.1 p.2 h (fr_is gp) (fr_sm gp) gp.2.1 gp.2.2 (by decide)
    rw [List.map_cons, List.map_cons, List.map_cons, zipL, cmp1_cons _ _ _ _ _ _ _ _ (((ρ.set 17 (some (rv (fr p)))).set 12 (some (.int p.1))).set 7 (some (.int p.2))) _ ok (by simp [pr, sto, stos])]
    have v12 : (((ρ.set 17 (some (rv (fr p)))).set 12 (some (.int p.1))).set 7 (some (.int p.2)))[12]? = some (some (.int p.1)) := by
      rw [List.getElem?_set_ne (by decide), List.getElem?_set_self (by simp; omega)]
    have v7 : (((ρ.set 17 (some (rv (fr p)))).set 12 (some (.int p.1))).set 7 (some (.int p.2)))[7]? = some (some (.int p.2)) := by
      rw [List.getElem?_set_self (by simp; omega)]
    have v17 : (((ρ.set 17 (some (rv (fr p)))).set 12 (some (.int p.1))).set 7 (some (.int p.2)))[17]? = some (some (rv (fr p))) := by
      rw [List.getElem?_set_ne (by decide), List.getElem?_set_ne (by decide), List.getElem?_set_self (by omega)]
    simp only [evc_nil, R.bind_ok, if_true, ev_call, evs_cons, evs_nil, ev_varR, v12, v7, v17, varR_some]
    rw [show callF fns (k+2) 20 [rv (fr p), .int p.1, .int p.2] h = _ from ci]
    simp only [R.bind_ok]
    rw [ih fun q hq => g q (List.mem_cons_of_mem _ hq)]
    rfl
end PL.K00
end
section
set_option Elab.async false
set_option linter.all false
set_option maxRecDepth 100000
namespace PL.K00
open PL
abbrev loopB : Ss := (.cons (.asg (.name 10) (.idx (.var 4) (.bin false .sub (.var 8) (.cst (.int 1))))) (.cons (.asg (.tup (.cons (.tup (.cons (.name 13) (.cons (.name 14) .nil))) (.cons (.tup (.cons (.name 15) (.cons (.name 16) .nil))) .nil))) (.tup (.cons (.var 9) (.cons (.var 10) .nil)))) (.cons (.asg (.name 11) (.lst false (.cons (.tup (.cons (.call 5 (.cons (.var 9) (.cons (.var 10) .nil))) (.cons (.bin false .add (.bin false .mul (.var 13) (.var 16)) (.bin false .mul (.var 15) (.var 14))) (.cons (.bin false .mul (.var 14) (.var 16)) .nil)))) (.cons (.tup (.cons (.call 6 (.cons (.var 9) (.cons (.var 10) .nil))) (.cons (.bin false .sub (.bin false .mul (.var 13) (.var 16)) (.bin false .mul (.var 15) (.var 14))) (.cons (.bin false .mul (.var 14) (.var 16)) .nil)))) .nil)))) (.cons (.asg (.name 11) (.bin false .add (.var 11) (.lst false (.cons (.tup (.cons (.call 7 (.cons (.var 9) (.cons (.var 10) .nil))) (.cons (.bin false .mul (.var 13) (.var 15)) (.cons (.bin false .mul (.var 14) (.var 16)) .nil)))) (.cons (.tup (.cons (.call 11 (.cons (.var 9) .nil)) (.cons (.neg (.var 13)) (.cons (.var 14) .nil)))) (.cons (.tup (.cons (.call 4 (.cons (.var 13) .nil)) (.cons (.var 13) (.cons (.cst (.int 1)) .nil)))) .nil)))))) (.cons (.iff (.cmp .ne (.var 15) (.cst (.int 0))) (.cons (.asg (.name 11) (.bin false .add (.var 11) (.lst false (.cons (.tup (.cons (.call 8 (.cons (.var 9) (.cons (.var 10) .nil))) (.cons (.bin false .mul (.var 13) (.var 16)) (.cons (.bin false .mul (.var 14) (.var 15)) .nil)))) .nil)))) .nil) (.cons (.iff (.not (.call 21 (.cons (.cst (.fn 8)) (.cons (.var 9) (.cons (.var 10) .nil))))) (.cons (.ret (.cst (.bl false))) .nil) .nil) .nil)) (.cons (.iff (.not (.bi .all false (.cons (.comp false (.call 20 (.cons (.var 17) (.cons (.var 12) (.cons (.var 18) .nil)))) (.tup (.cons (.name 17) (.cons (.name 12) (.cons (.name 18) .nil)))) (.of (.var 11)) .nil [17, 12, 18]) .nil))) (.cons (.ret (.cst (.bl false))) .nil) .nil) (.cons (.iff (.or (.not (.call 17 (.cons (.call 10 (.cons (.var 9) (.cons (.var 10) .nil))) (.cons (.cmp .lt (.bin false .mul (.var 13) (.var 16)) (.bin false .mul (.var 15) (.var 14))) .nil)))) (.not (.call 17 (.cons (.call 12 (.cons (.var 9) .nil)) (.cons (.ite (.cmp .gt (.var 13) (.cst (.int 0))) (.cst (.int 1)) (.ite (.cmp .lt (.var 13) (.cst (.int 0))) (.neg (.cst (.int 1))) (.cst (.int 0)))) .nil))))) (.cons (.ret (.cst (.bl false))) .nil) .nil) (.cons (.iff (.or (.not (.call 17 (.cons (.call 2 (.cons (.var 13) (.cons (.var 15) .nil))) (.cons (.call 19 (.cons (.var 13) (.cons (.var 15) .nil))) .nil)))) (.or (.not (.call 21 (.cons (.cst (.fn 3)) (.cons (.var 13) (.cons (.cst (.int 0)) .nil))))) (.not (.call 22 (.cons (.var 9) .nil))))) (.cons (.ret (.cst (.bl false))) .nil) .nil) (.cons (.asg (.tup (.cons (.name 5) (.cons (.name 6) (.cons (.name 7) .nil)))) (.tup (.cons (.bin false .add (.bin false .mul (.bin false .mul (.var 5) (.var 14)) (.var 16)) (.bin false .mul (.bin false .mul (.var 13) (.var 16)) (.var 7))) (.cons (.bin false .add (.bin false .mul (.bin false .mul (.var 6) (.var 14)) (.var 16)) (.bin false .mul (.bin false .mul (.var 13) (.var 15)) (.var 7))) (.cons (.bin false .mul (.bin false .mul (.var 7) (.var 14)) (.var 16)) .nil))))) .nil)))))))))
def row (r : Rat × Int × Int) : D := .tup [rv r.1, .int r.2.1, .int r.2.2]
def rowOk (r : Rat × Int × Int) : Prop := Is r.1 r.2.1 r.2.2 ∧ Bd 200 r.2.1 ∧ Bd 200 r.2.2
theorem rows_map (k : Nat) (h : Hpp) (ρ : Env) (hρ : ρ.length = 19) (rs : List (Rat × Int × Int)) (g : ∀ r ∈ rs, rowOk r) :
    cmp1 (callF fns (k+2)) (.call 20 (.cons (.var 17) (.cons (.var 12) (.cons (.var 18) .nil)))) (.tup (.cons (.name 17) (.cons (.name 12) (.cons (.name 18) .nil)))) .nil [] (rs.map row) ρ h = .ok (List.replicate rs.length (.bl true)) h := by
  induction rs with
  | nil => simp [cmp1_nil]
  | cons p rs ih =>
    obtain ⟨g1, g2, g3⟩ := g p List.mem_cons_self
    have ci := c_is k p.1 p.2.1 p.2.2 h g1 (g1.sm g2 g3) g2 g3 (by decide)
    rw [List.map_cons, cmp1_cons _ _ _ _ _ _ _ _ (((ρ.set 17 (some (rv p.1))).set 12 (some (.int p.2.1))).set 18 (some (.int p.2.2))) _ rfl (by simp [row, sto, stos])]
    have v12 : (((ρ.set 17 (some (rv p.1))).set 12 (some (.int p.2.1))).set 18 (some (.int p.2.2)))[12]? = some (some (.int p.2.1)) := by
      rw [List.getElem?_set_ne (by decide), List.getElem?_set_self (by simp; omega)]
    have v18 : (((ρ.set 17 (some (rv p.1))).set 12 (some (.int p.2.1))).set 18 (some (.int p.2.2)))[18]? = some (some (.int p.2.2)) := by
      rw [List.getElem?_set_self (by simp; omega)]
    have v17 : (((ρ.set 17 (some (rv p.1))).set 12 (some (.int p.2.1))).set 18 (some (.int p.2.2)))[17]? = some (some (rv p.1)) := by
      rw [List.getElem?_set_ne (by decide), List.getElem?_set_ne (by decide), List.getElem?_set_self (by omega)]
    simp only [evc_nil, R.bind_ok, if_true, ev_call, evs_cons, evs_nil, ev_varR, v12, v18, v17, varR_some]
    rw [show callF fns (k+2) 20 [rv p.1, .int p.2.1, .int p.2.2] h = _ from ci]
    simp only [R.bind_ok]
    rw [ih fun q hq => g q (List.mem_cons_of_mem _ hq)]
    rfl
@[simp] theorem asg_rv (cal : Cal) (ts : Lv) (q : Rat) (ρ : Env) (h : Hpp) : asg cal (.tup ts) (rv q) ρ h = if 2 = ts.len then asgs cal ts [.int q.num, .int q.den] ρ h else .no := by simp [rv]
theorem body_ok (k : Nat) (h : Hpp) (q p : Rat) (hq : Sm 61 q) (hp : Sm 61 p) (ks : D) (kk n5 n6 n7 : Int) (b5 : Bd 700 n5) (b6 : Bd 700 n6) (b7 : Bd 700 n7) (hk : item ks (.int (kk - 1)) h = some (rv p)) (sc t y10 y11 y12 y13 y14 y15 y16 : Option D) : ∃ x11,
    exs (callF fns (k+7)) loopB [sc, some (.ref 1), some (.ref 2), t, some ks, some (.int n5), some (.int n6), some (.int n7), some (.int kk), some (rv q), y10, y11, y12, y13, y14, y15, y16, none, none] h =
    .nx [sc, some (.ref 1), some (.ref 2), t, some ks, some (.int (n5 * q.den * p.den + q.num * p.den * n7)), some (.int (n6 * q.den * p.den + q.num * p.num * n7)), some (.int (n7 * q.den * p.den)), some (.int kk), some (rv q), some (rv p), x11, y12, some (.int q.num), some (.int q.den), some (.int p.num), some (.int p.den), none, none] h := by
  have ca : callF fns (k+7) 5 [rv q, rv p] h = _ := c_add (k+4) q p h hq hp (by decide)
  have cs : callF fns (k+7) 6 [rv q, rv p] h = _ := c_sub (k+4) q p h hq hp (by decide)
  have cm : callF fns (k+7) 7 [rv q, rv p] h = _ := c_mul (k+4) q p h hq hp (by decide)
  have cn : callF fns (k+7) 11 [rv q] h = _ := c_negative (k+6) q h
  have co : callF fns (k+7) 4 [.int q.num] h = _ := c_of (k+6) q.num h
  have cl : callF fns (k+7) 10 [rv q, rv p] h = _ := c_less (k+6) q p h hq hp (by decide)
  have cg : callF fns (k+7) 12 [rv q] h = _ := c_sign (k+6) q h
  have cd : callF fns (k+7) 2 [.int q.num, .int p.num] h = _ := c_div (k+6) q.num p.num h
  have cd2 : callF fns (k+7) 19 [.int q.num, .int p.num] h = _ := c_shared (k+6) q.num p.num h
  have cr : callF fns (k+7) 21 [.fn 3, .int q.num, .int 0] h = _ := c_refused (k+6) 3 (.int q.num) (.int 0) h rfl rfl (fun _ => rfl) (fun _ => rfl) (c_make0 (k+5) q.num [])
  have cp : callF fns (k+7) 22 [rv q] h = _ := c_powers k q hq h
  have sb : ∀ b, callF fns (k+7) 17 [.bl b, .bl b] h = _ := fun b => c_same_bl (k+6) b h
  have si : ∀ b, callF fns (k+7) 17 [.int b, .int b] h = _ := fun b => c_same_int (k+6) b h
  have ia := (Is.self q).add (Is.self p)
  have is_ := (Is.self q).sub (Is.self p)
  have im := (Is.self q).mul (Is.self p)
  have ig : Is (-q) (-q.num) q.den := by have := Is.self (-q); simpa using this
  have io : Is (q.num : Rat) q.num 1 := by have := Is.self (q.num : Rat); simpa using this
  have bn := hq.1
  have bd := hq.2
  have cn' := hp.1
  have dn := hp.2
  have ad := bn.mul dn
  have cb := cn'.mul bd
  have bdd := bd.mul dn
  have ac := bn.mul cn'
  have bc := bd.mul cn'
  have r1 : rowOk (q + p, q.num * p.den + p.num * q.den, (q.den : Int) * p.den) := ⟨ia, (ad.add cb).mono (by decide), bdd.mono (by decide)⟩
  have r2 : rowOk (q - p, q.num * p.den - p.num * q.den, (q.den : Int) * p.den) := ⟨is_, (ad.sub cb).mono (by decide), bdd.mono (by decide)⟩
  have r3 : rowOk (q * p, q.num * p.num, (q.den : Int) * p.den) := ⟨im, ac.mono (by decide), bdd.mono (by decide)⟩
  have r4 : rowOk (-q, -q.num, (q.den : Int)) := ⟨ig, bn.neg.mono (by decide), bd.mono (by decide)⟩
  have r5 : rowOk ((q.num : Rat), q.num, 1) := ⟨io, bn.mono (by decide), by show Bd 200 1; unfold Bd; decide⟩
  have m1 := bn.mulOk dn (by decide)
  have m2 := cn'.mulOk bd (by decide)
  have m3 := bd.mulOk dn (by decide)
  have m4 := bn.mulOk cn' (by decide)
  have m5 := bd.mulOk cn' (by decide)
  have m6 := b5.mulOk bd (by decide)
  have m7 := (b5.mul bd).mulOk dn (by decide)
  have m8 := ad.mulOk b7 (by decide)
  have m9 := b6.mulOk bd (by decide)
  have m10 := (b6.mul bd).mulOk dn (by decide)
  have m11 := ac.mulOk b7 (by decide)
  have m12 := b7.mulOk bd (by decide)
  have m13 := (b7.mul bd).mulOk dn (by decide)
  generalize q + p = A at ca r1
  generalize q - p = B at cs r2
  generalize q * p = C at cm r3
  generalize -q = N at cn r4
  generalize (q.num : Rat) = O at co r5
  have sg : (if 0 < q.num then (R.ok (D.int 1) h : R D) else if q.num < 0 then .ok (.int (-1)) h else .ok (.int 0) h) = .ok (.int q.num.sign) h := by
    rcases Int.lt_trichotomy q.num 0 with s | s | s
    · rw [if_neg (by omega), if_pos s, Int.sign_eq_neg_one_of_neg s]
    · rw [if_neg (by omega), if_neg (by omega), s]; rfl
    · rw [if_pos s, Int.sign_eq_one_of_pos s]
  by_cases c0 : p.num = 0
  · have pz := num0 c0
    have rr := fun ρ hρ => rows_map (k+5) h ρ hρ [(A, _, _), (B, _, _), (C, _, _), (N, _, _), (O, _, _)] (by
      intro r hr
      simp only [List.mem_cons, List.not_mem_nil, or_false] at hr
      rcases hr with rfl | rfl | rfl | rfl | rfl
      · exact r1
      · exact r2
      · exact r3
      · exact r4
      · exact r5)
    have cq : callF fns (k+7) 21 [.fn 8, rv q, rv p] h = _ := c_refused (k+6) 8 (rv q) (rv p) h rfl rfl (fun _ => rfl) (fun _ => rfl) (by rw [pz]; exact c_quo0 (k+5) q [])
    simp only [List.map_cons, List.map_nil, row, List.length_cons, List.length_nil, List.replicate] at rr
    have c0' := eq_true c0
    refine ⟨some (.fl ([(A, q.num * p.den + p.num * q.den, (q.den : Int) * p.den), (B, q.num * p.den - p.num * q.den, (q.den : Int) * p.den), (C, q.num * p.num, (q.den : Int) * p.den), (N, -q.num, (q.den : Int)), (O, q.num, 1)].map row)), ?_⟩
    simp only [List.map_cons, List.map_nil, row]
    simp [loopB, ev_varR, hk, ca, cs, cm, cn, co, cl, cg, cd, cd2, cr, cp, sb, si, m1, m2, m3, m4, m5, m6, m7, m8, m9, m10, m11, m12, m13, sg, c0', cq, rr, bop, bopL, lstOf, line]
  · have iq := (Is.self q).div (Is.self p) c0
    have r6 : rowOk (q / p, q.num * p.den, (q.den : Int) * p.num) := ⟨iq, ad.mono (by decide), bc.mono (by decide)⟩
    have pn : p ≠ 0 := fun z => c0 (by rw [z]; rfl)
    have cq : callF fns (k+7) 8 [rv q, rv p] h = _ := c_quo (k+4) q p h pn hq hp (by decide)
    generalize q / p = Z at cq r6
    have rr := fun ρ hρ => rows_map (k+5) h ρ hρ [(A, _, _), (B, _, _), (C, _, _), (N, _, _), (O, _, _), (Z, _, _)] (by
      intro r hr
      simp only [List.mem_cons, List.not_mem_nil, or_false] at hr
      rcases hr with rfl | rfl | rfl | rfl | rfl | rfl
      · exact r1
      · exact r2
      · exact r3
      · exact r4
      · exact r5
      · exact r6)
    simp only [List.map_cons, List.map_nil, row, List.length_cons, List.length_nil, List.replicate] at rr
    refine ⟨some (.fl ([(A, q.num * p.den + p.num * q.den, (q.den : Int) * p.den), (B, q.num * p.den - p.num * q.den, (q.den : Int) * p.den), (C, q.num * p.num, (q.den : Int) * p.den), (N, -q.num, (q.den : Int)), (O, q.num, 1), (Z, q.num * p.den, (q.den : Int) * p.num)].map row)), ?_⟩
    simp only [List.map_cons, List.map_nil, row]
    simp [loopB, ev_varR, hk, ca, cs, cm, cn, co, cl, cg, cd, cd2, cr, cp, sb, si, m1, m2, m3, m4, m5, m6, m7, m8, m9, m10, m11, m12, m13, sg, c0, cq, rr, bop, bopL, lstOf, line]
end PL.K00
end
section
set_option Elab.async false
set_option linter.all false
set_option maxRecDepth 100000
namespace PL.K00
open PL
theorem big_loop (k : Nat) (h : Hpp) (ks : D) (sc t : Option D) : ∀ (qs ps : List Rat) (j e : Nat) (f g : Rat) (n5 n6 n7 : Int) (y8 y9 y10 y11 y12 y13 y14 y15 y16 : Option D), qs.length = ps.length → (∀ q ∈ qs, Sm 61 q) → (∀ p ∈ ps, Sm 61 p) → (∀ i p, ps[i]? = some p → item ks (.int (((j + i : Nat) : Int) - 1)) h = some (rv p)) →
    Is f n5 n7 → Is g n6 n7 → Bd e n5 → Bd e n6 → Bd e n7 → e + 123 * qs.length ≤ 700 →
    ∃ (m5 m6 m7 : Int) (z8 z9 z10 z11 z12 z13 z14 z15 z16 : Option D), forr (callF fns (k+7)) (.tup (.cons (.name 8) (.cons (.name 9) .nil))) loopB [] (enumL j (qs.map rv)) [sc, some (.ref 1), some (.ref 2), t, some ks, some (.int n5), some (.int n6), some (.int n7), y8, y9, y10, y11, y12, y13, y14, y15, y16, none, none] h =
      .nx [sc, some (.ref 1), some (.ref 2), t, some ks, some (.int m5), some (.int m6), some (.int m7), z8, z9, z10, z11, z12, z13, z14, z15, z16, none, none] h ∧ Is (qs.foldl (· + ·) f) m5 m7 ∧ Is (dotL g qs ps) m6 m7 ∧ Bd 700 m5 ∧ Bd 700 m6 ∧ Bd 700 m7
  | [], ps, j, e, f, g, n5, n6, n7, y8, y9, y10, y11, y12, y13, y14, y15, y16, _, _, _, _, i1, i2, b5, b6, b7, l => ⟨n5, n6, n7, y8, y9, y10, y11, y12, y13, y14, y15, y16, by simp [enumL, forr_nil], i1, by simpa [dotL] using i2, b5.mono (by omega), b6.mono (by omega), b7.mono (by omega)⟩
  | q :: qs, [], j, e, f, g, n5, n6, n7, y8, y9, y10, y11, y12, y13, y14, y15, y16, hl, _, _, _, _, _, _, _, _, _ => by simp at hl
  | q :: qs, p :: ps, j, e, f, g, n5, n6, n7, y8, y9, y10, y11, y12, y13, y14, y15, y16, hl, hq, hp, hk, i1, i2, b5, b6, b7, l => by
    have sq := hq q List.mem_cons_self
    have sp := hp p List.mem_cons_self
    have l' : e + 123 * (qs.length + 1) ≤ 700 := l
    obtain ⟨x11, eb⟩ := body_ok k h q p sq sp ks j n5 n6 n7 (b5.mono (by omega)) (b6.mono (by omega)) (b7.mono (by omega)) (by simpa using hk 0 p rfl) sc t y10 y11 y12 y13 y14 y15 y16
    have iq : Is q (q.num * p.den) ((q.den : Int) * p.den) := by
      have d0 : (p.den : Int) ≠ 0 := by have := p.den_nz; omega
      have d1 : (q.den : Int) ≠ 0 := by have := q.den_nz; omega
      exact Is.of (Int.mul_ne_zero d1 d0) (by rw [Int.mul_assoc, Int.mul_comm (p.den : Int) (q.den : Int)])
    have ipq : Is (q * p) (q.num * p.num) ((q.den : Int) * p.den) := (Is.self q).mul (Is.self p)
    have a1 := i1.add iq
    have a2 := i2.add ipq
    rw [← Int.mul_assoc, ← Int.mul_assoc] at a1 a2
    have c5 : Bd (e + 123) (n5 * q.den * p.den + q.num * p.den * n7) := (((b5.mul sq.2).mul sp.2).add (((sq.1.mul sp.2).mul b7).mono (by omega))).mono (by omega)
    have c6 : Bd (e + 123) (n6 * q.den * p.den + q.num * p.num * n7) := (((b6.mul sq.2).mul sp.2).add (((sq.1.mul sp.1).mul b7).mono (by omega))).mono (by omega)
    have c7 : Bd (e + 123) (n7 * q.den * p.den) := ((b7.mul sq.2).mul sp.2).mono (by omega)
    obtain ⟨m5, m6, m7, z8, z9, z10, z11, z12, z13, z14, z15, z16, e2, r⟩ := big_loop k h ks sc t qs ps (j + 1) (e + 123) (f + q) (g + q * p) _ _ _ (some (.int j)) (some (rv q)) (some (rv p)) x11 y12 (some (.int q.num)) (some (.int q.den)) (some (.int p.num)) (some (.int p.den)) (by simpa using hl) (fun a ha => hq a (List.mem_cons_of_mem _ ha)) (fun a ha => hp a (List.mem_cons_of_mem _ ha))
      (fun i a ha => by
        have := hk (i + 1) a (by simpa using ha)
        rw [show j + 1 + i = j + (i + 1) by omega]; exact this) a1 a2 c5 c6 c7 (by omega)
    refine ⟨m5, m6, m7, z8, z9, z10, z11, z12, z13, z14, z15, z16, ?_, by simpa [dotL] using r⟩
    rw [List.map_cons, enumL, forr_cons _ _ _ _ _ _ _ [sc, some (.ref 1), some (.ref 2), t, some ks, some (.int n5), some (.int n6), some (.int n7), some (.int j), some (rv q), y10, y11, y12, y13, y14, y15, y16, none, none] _ rfl (by simp [sto, stos]), eb, turn_nx]
    exact e2
end PL.K00
end
section
set_option Elab.async false
set_option linter.all false
set_option maxRecDepth 100000
namespace PL.K00
open PL
theorem sumOk_of : ∀ (qs : List Rat) (f : Rat) (e : Nat), Sm e f → (∀ q ∈ qs, Sm 61 q) → e + 62 * qs.length ≤ 4000 → SumOk f qs
  | [], f, e, hf, _, l => hf.mono (by simpa using l)
  | q :: qs, f, e, hf, hq, l => by
    have l' : e + 62 * (qs.length + 1) ≤ 4000 := l
    have sq := hq q List.mem_cons_self
    exact ⟨hf.mono (by omega), sq.mono (by decide), sumOk_of qs (f + q) (e + 62) ((hf.add sq).mono (by omega)) (fun a ha => hq a (List.mem_cons_of_mem _ ha)) (by omega)⟩
theorem dotOk_of : ∀ (qs ps : List Rat) (f : Rat) (e : Nat), Sm e f → (∀ q ∈ qs, Sm 61 q) → (∀ q ∈ ps, Sm 61 q) → e + 123 * qs.length ≤ 4000 → DotOk f qs ps
  | [], ps, f, e, hf, _, _, l => by cases ps <;> exact hf.mono (by simpa using l)
  | q :: qs, [], f, e, hf, _, _, l => hf.mono (by omega)
  | q :: qs, p :: ps, f, e, hf, hq, hp, l => by
    have l' : e + 123 * (qs.length + 1) ≤ 4000 := l
    have sq := hq q List.mem_cons_self
    have sp := hp p List.mem_cons_self
    exact ⟨hf.mono (by omega), sq.mono (by decide), sp.mono (by decide), dotOk_of qs ps (f + q * p) (e + 123) ((hf.add (sq.mul sp)).mono (by omega)) (fun a ha => hq a (List.mem_cons_of_mem _ ha)) (fun a ha => hp a (List.mem_cons_of_mem _ ha)) (by omega)⟩
def rot {α : Type} (qs : List α) : List α := qs.drop (qs.length - 1) ++ qs.take (qs.length - 1)
theorem rot_len {α : Type} (qs : List α) : (rot qs).length = qs.length := by
  simp [rot]
theorem rot_map {α β : Type} (f : α → β) (qs : List α) : rot (qs.map f) = (rot qs).map f := by
  simp [rot, List.map_drop, List.map_take]
theorem rot_mem {α : Type} {qs : List α} {q : α} (h : q ∈ rot qs) : q ∈ qs := by
  rcases List.mem_append.mp h with h | h
  · exact List.mem_of_mem_drop h
  · exact List.mem_of_mem_take h
theorem rot_item (qs : List Rat) (i : Nat) (p : Rat) (h : Hpp) (e : (rot qs)[i]? = some p) : item (.fl (qs.map rv)) (.int (((0 + i : Nat) : Int) - 1)) h = some (rv p) := by
  have hi : i < qs.length := by
    have := (List.getElem?_eq_some_iff.mp e).1
    rw [rot_len] at this; exact this
  rw [Nat.zero_add]
  have l1 : (qs.drop (qs.length - 1)).length = 1 := by simp; omega
  have key : ixN (qs.map rv).length ((i : Int) - 1) = some (if i = 0 then qs.length - 1 else i - 1) := by
    unfold ixN
    rw [List.length_map]
    by_cases h0 : i = 0
    · subst h0
      rw [if_neg (by omega), if_pos (by omega), if_pos rfl]
      congr 1; omega
    · rw [if_pos (by omega), if_pos (by omega), if_neg h0]
      congr 1; omega
  show (match ixN (qs.map rv).length ((i : Int) - 1) with | some j => (qs.map rv)[j]? | none => none) = _
  rw [key]
  show (qs.map rv)[if i = 0 then qs.length - 1 else i - 1]? = _
  rw [List.getElem?_map]
  unfold rot at e
  by_cases h0 : i = 0
  · subst h0
    rw [List.getElem?_append_left (by omega), List.getElem?_drop, Nat.add_zero] at e
    rw [if_pos rfl, e]; rfl
  · rw [List.getElem?_append_right (by omega), l1, List.getElem?_take_of_lt (by omega)] at e
    rw [if_neg h0, e]; rfl
end PL.K00
end
section
set_option Elab.async false
set_option linter.all false
set_option maxRecDepth 100000
namespace PL.K00
open PL
theorem cutA {α : Type} : ∀ xs : List α, xs.length ≤ 5 → cut xs (some (-1)) none = xs.drop (xs.length - 1)
  | [], _ => rfl
  | [_], _ => rfl
  | [_, _], _ => rfl
  | [_, _, _], _ => rfl
  | [_, _, _, _], _ => rfl
  | [_, _, _, _, _], _ => rfl
  | _ :: _ :: _ :: _ :: _ :: _ :: _, h => by simp at h
theorem cutB {α : Type} : ∀ xs : List α, xs.length ≤ 5 → cut xs none (some (-1)) = xs.take (xs.length - 1)
  | [], _ => rfl
  | [_], _ => rfl
  | [_, _], _ => rfl
  | [_, _, _], _ => rfl
  | [_, _, _, _], _ => rfl
  | [_, _, _, _, _], _ => rfl
  | _ :: _ :: _ :: _ :: _ :: _ :: _, h => by simp at h
theorem zipL_len : ∀ (xs ys : List D), (zipL xs ys).length ≤ ys.length
  | [], ys => by simp [zipL]
  | _ :: _, [] => by simp [zipL]
  | x :: xs, y :: ys => by have := zipL_len xs ys; simp [zipL]; exact this
theorem hev : ∀ is : List Int, is.length ≤ 63 → ∃ h, callF fns 30 i_law [.sc is] [] = .ok (.bl true) h := by
  intro is hl
  obtain ⟨ns0, s0, et⟩ := c_tape 28 is hl
  obtain ⟨v, ns1, s1, va, vb, ed⟩ := c_draw 28 4 (by decide) (by decide) ns0 s0 [.lst []]
  have rg := range0 (i := 2 + v) (by omega) (by omega) (tp ns1 s1 [.lst []])
  obtain ⟨ps, ns2, s2, t2, x7, x12, gp, pl, ep⟩ := pairs_loop 27 (.sc is) (rangeL 0 (2 + v).toNat 1) [] ns1 s1 none none none (by rw [rangeL_len]; simp; omega)
  rw [rangeL_len] at pl
  simp only [List.map_nil, List.nil_append, E1] at ep
  -- the fractions
  have hok : okH [(2, .lst (ps.map pr))] (tp ns2 s2 [.lst (ps.map pr)]) = true := by simp [okH, tp]
  have ek := fun ρ hρ => known_map 27 _ _ hok ρ hρ ps gp
  have ec := fun ρ hρ => check_map 27 _ _ hok ρ hρ ps gp
  have hs : ∀ q ∈ ps.map fr, Sm 61 q := fun q hq => by
    obtain ⟨p, hp, rfl⟩ := List.mem_map.mp hq
    exact fr_sm (gp p hp)
  have hs2 : ∀ q ∈ rot (ps.map fr), Sm 61 q := fun q hq => hs q (rot_mem hq)
  have qlen : (ps.map fr).length ≤ 5 := by rw [List.length_map, pl]; omega
  generalize hqs : ps.map fr = qs at *
  have i0 : Is 0 0 1 := ⟨by decide, rfl⟩
  obtain ⟨m5, m6, m7, z8, z9, z10, z11, z12, z13, z14, z15, z16, eb, j1, j2, b5, b6, b7⟩ := big_loop 22 (tp ns2 s2 [.lst (ps.map pr)]) (.fl (qs.map rv)) (some (.sc is)) t2 qs (rot qs) 0 1 0 0 0 0 1 none none none none x12 none none none none (by rw [rot_len]) hs hs2 (fun i p e => rot_item qs i p _ e) i0 i0 (by unfold Bd; decide) (by unfold Bd; decide) (by unfold Bd; decide) (by omega)
  have et1 := c_total 25 qs (tp ns2 s2 [.lst (ps.map pr)]) (sumOk_of qs 0 1 Sm.zero hs (by omega))
  have et2 := c_dot 25 qs (rot qs) (tp ns2 s2 [.lst (ps.map pr)]) (dotOk_of qs (rot qs) 0 1 Sm.zero hs hs2 (by omega))
  have et3 := c_total 25 [] (tp ns2 s2 [.lst (ps.map pr)]) (Sm.zero.mono (by decide))
  have rv0 : rv 0 = .tup [.int 0, .int 1] := by decide
  have et3 : callF fns 29 13 [.fl []] (tp ns2 s2 [.lst (ps.map pr)]) = .ok (.tup [.int 0, .int 1]) (tp ns2 s2 [.lst (ps.map pr)]) := by rw [← rv0]; exact et3
  generalize qs.foldl (· + ·) 0 = f1 at j1 et1
  generalize dotL 0 qs (rot qs) = f2 at j2 et2
  have ei1 := c_is 27 f1 m5 m7 (tp ns2 s2 [.lst (ps.map pr)]) j1 (j1.sm b5 b7) b5 b7 (by decide)
  have ei2 := c_is 27 f2 m6 m7 (tp ns2 s2 [.lst (ps.map pr)]) j2 (j2.sm b6 b7) b6 b7 (by decide)
  have es : ∀ a b, callF fns 29 17 [.tup [.int a, .int b], .tup [.int a, .int b]] (tp ns2 s2 [.lst (ps.map pr)]) = _ := fun a b => c_same_2 27 a b _
  have eo : callF fns 29 23 [] (tp ns2 s2 [.lst (ps.map pr)]) = _ := c_odd 25 _
  have so : srcOf (.ref 2) (tp ns2 s2 [.lst (ps.map pr)]) = .ok ⟨ps.map pr, [(2, .lst (ps.map pr))]⟩ (tp ns2 s2 [.lst (ps.map pr)]) := rfl
  have sz : srcZ (.fl (qs.map rv)) (.ref 2) (tp ns2 s2 [.lst (ps.map pr)]) = .ok ⟨zipL (qs.map rv) (ps.map pr), [(2, .lst (ps.map pr))]⟩ (tp ns2 s2 [.lst (ps.map pr)]) := rfl
  have se : srcE (.fl (qs.map rv)) (tp ns2 s2 [.lst (ps.map pr)]) = .ok ⟨enumL 0 (qs.map rv), []⟩ (tp ns2 s2 [.lst (ps.map pr)]) := rfl
  have l1 : ps.length ≤ line := by rw [pl]; have : line = 16777216 := rfl; omega
  have l2 : (zipL (qs.map rv) (ps.map pr)).length ≤ line := by have := zipL_len (qs.map rv) (ps.map pr); rw [List.length_map] at this; omega
  have app : ∀ ns s r x, tp ns s r ++ x = tp ns s (r ++ x) := fun _ _ _ _ => rfl
  have tl : ∀ ns s, (tp ns s []).length = 2 := fun _ _ => rfl
  have br := blsOf_true ps.length
  have rs : res (.sc is) [] = .sc is := rfl
  have ps' : pureD (.sc is) = true := rfl
  have rm : ∀ h, slice false (.fl (qs.map rv)) (some (-1)) none h = .ok (.fl ((qs.map rv).drop (qs.length - 1))) h := fun h => by
    show R.ok (D.fl (cut (qs.map rv) (some (-1)) none)) h = _
    rw [cutA _ (by rw [List.length_map]; exact qlen), List.length_map]
  have rm2 : ∀ h, slice false (.fl (qs.map rv)) none (some (-1)) h = .ok (.fl ((qs.map rv).take (qs.length - 1))) h := fun h => by
    show R.ok (D.fl (cut (qs.map rv) none (some (-1)))) h = _
    rw [cutB _ (by rw [List.length_map]; exact qlen), List.length_map]
  have rb : ∀ h, bop .add false (.fl ((qs.map rv).drop (qs.length - 1))) (.fl ((qs.map rv).take (qs.length - 1))) h = .ok (.fl ((rot qs).map rv)) h := fun h => by
    show (if ((qs.map rv).drop (qs.length - 1)).length + ((qs.map rv).take (qs.length - 1)).length ≤ line then R.ok (D.fl ((qs.map rv).drop (qs.length - 1) ++ (qs.map rv).take (qs.length - 1))) h else .no) = _
    rw [if_pos (by rw [List.length_drop, List.length_take, List.length_map]; have : line = 16777216 := rfl; omega), ← rot_map]
    unfold rot
    rw [List.length_map]
  simp only [Nat.reduceAdd] at et ed ep ek ec eb et1 et2 et3 ei1 ei2
  refine ⟨[], ?_⟩
  rw [callF_some 29 _ _ (fn := f_law) rfl]
  simp only [loopB] at eb
  simp [runFn, f_law, b_law, env0, fin0, ev_varR, rs, ps', et, app, tl, ed, rg, ep, so, l1, ek, ec, sz, l2, br, se, eb, et1, ei1, rm, rm2, rb, et2, ei2, et3, es, eo]
end PL.K00
end
section
set_option Elab.async false
set_option linter.all false
set_option maxRecDepth 100000
set_option maxHeartbeats 0
namespace PL.K00
open PL PySem PySem.Spec PyProof.Rows L2
def topS (i : Nat) : Stmt := PySem.Challenge.pw_greatsums_k00_whole_fractions_reckoned.main.body.getD i (.Pass ⟨0, 0, 0, 0⟩)
def mkF (n : Str) (s : Stmt) (N : List Str) : FI := ⟨n, n, defArgs s, defBody s, defScope s, N⟩
def i__is_integer : FI := mkF "is_integer" (topS 6) n_is_integer
theorem bd_is_integer : i__is_integer.bd 1 := fun _ _ _ _ _ _ us hl => match us, hl with | [_], _ => rfl
def i__is_ratio : FI := mkF "is_ratio" (topS 7) n_is_ratio
theorem bd_is_ratio : i__is_ratio.bd 1 := fun _ _ _ _ _ _ us hl => match us, hl with | [_], _ => rfl
def i__divisor : FI := mkF "divisor" (topS 8) n_divisor
theorem bd_divisor : i__divisor.bd 2 := fun _ _ _ _ _ _ us hl => match us, hl with | [_, _], _ => rfl
def i__make : FI := mkF "make" (topS 9) n_make
theorem bd_make : i__make.bd 2 := fun _ _ _ _ _ _ us hl => match us, hl with | [_, _], _ => rfl
def i__of : FI := mkF "of" (topS 10) n_of
theorem bd_of : i__of.bd 1 := fun _ _ _ _ _ _ us hl => match us, hl with | [_], _ => rfl
def i__add : FI := mkF "add" (topS 11) n_add
theorem bd_add : i__add.bd 2 := fun _ _ _ _ _ _ us hl => match us, hl with | [_, _], _ => rfl
def i__subtract : FI := mkF "subtract" (topS 12) n_subtract
theorem bd_subtract : i__subtract.bd 2 := fun _ _ _ _ _ _ us hl => match us, hl with | [_, _], _ => rfl
def i__multiply : FI := mkF "multiply" (topS 13) n_multiply
theorem bd_multiply : i__multiply.bd 2 := fun _ _ _ _ _ _ us hl => match us, hl with | [_, _], _ => rfl
def i__divide : FI := mkF "divide" (topS 14) n_divide
theorem bd_divide : i__divide.bd 2 := fun _ _ _ _ _ _ us hl => match us, hl with | [_, _], _ => rfl
def i__power : FI := mkF "power" (topS 15) n_power
theorem bd_power : i__power.bd 2 := fun _ _ _ _ _ _ us hl => match us, hl with | [_, _], _ => rfl
def i__less : FI := mkF "less" (topS 16) n_less
theorem bd_less : i__less.bd 2 := fun _ _ _ _ _ _ us hl => match us, hl with | [_, _], _ => rfl
def i__negative : FI := mkF "negative" (topS 17) n_negative
theorem bd_negative : i__negative.bd 1 := fun _ _ _ _ _ _ us hl => match us, hl with | [_], _ => rfl
def i__sign : FI := mkF "sign" (topS 18) n_sign
theorem bd_sign : i__sign.bd 1 := fun _ _ _ _ _ _ us hl => match us, hl with | [_], _ => rfl
def i__total : FI := mkF "total" (topS 19) n_total
theorem bd_total : i__total.bd 1 := fun _ _ _ _ _ _ us hl => match us, hl with | [_], _ => rfl
def i__dot : FI := mkF "dot" (topS 20) n_dot
theorem bd_dot : i__dot.bd 2 := fun _ _ _ _ _ _ us hl => match us, hl with | [_, _], _ => rfl
def i___law_tape : FI := mkF "_law_tape" (topS 22) n__law_tape
theorem bd__law_tape : i___law_tape.bd 1 := fun _ _ _ _ _ _ us hl => match us, hl with | [_], _ => rfl
def i___law_draw : FI := mkF "_law_draw" (topS 23) n__law_draw
theorem bd__law_draw : i___law_draw.bd 2 := fun _ _ _ _ _ _ us hl => match us, hl with | [_, _], _ => rfl
def i___law_same : FI := mkF "_law_same" (topS 24) n__law_same
theorem bd__law_same : i___law_same.bd 2 := fun _ _ _ _ _ _ us hl => match us, hl with | [_, _], _ => rfl
def i___law_whole : FI := mkF "_law_whole" (topS 25) n__law_whole
theorem bd__law_whole : i___law_whole.bd 1 := fun _ _ _ _ _ _ us hl => match us, hl with | [_], _ => rfl
def i___law_shared : FI := mkF "_law_shared" (topS 26) n__law_shared
theorem bd__law_shared : i___law_shared.bd 2 := fun _ _ _ _ _ _ us hl => match us, hl with | [_, _], _ => rfl
def i___law_is : FI := mkF "_law_is" (topS 27) n__law_is
theorem bd__law_is : i___law_is.bd 3 := fun _ _ _ _ _ _ us hl => match us, hl with | [_, _, _], _ => rfl
def i___law_refused : FI := mkF "_law_refused" (topS 28) n__law_refused
theorem bd__law_refused : i___law_refused.bd 3 := fun _ _ _ _ _ _ us hl => match us, hl with | [_, _, _], _ => rfl
def i___law_powers : FI := mkF "_law_powers" (topS 29) n__law_powers
theorem bd__law_powers : i___law_powers.bd 1 := fun _ _ _ _ _ _ us hl => match us, hl with | [_], _ => rfl
def i___law_odd : FI := mkF "_law_odd" (topS 30) n__law_odd
theorem bd__law_odd : i___law_odd.bd 0 := fun _ _ _ _ _ _ us hl => match us, hl with | [], _ => rfl
def i__law : FI := mkF "law" (topS 31) n_law
theorem bd_law : i__law.bd 1 := fun _ _ _ _ _ _ us hl => match us, hl with | [_], _ => rfl
def fis : List FI := [i__is_integer, i__is_ratio, i__divisor, i__make, i__of, i__add, i__subtract, i__multiply, i__divide, i__power, i__less, i__negative, i__sign, i__total, i__dot, i___law_tape, i___law_draw, i___law_same, i___law_whole, i___law_shared, i___law_is, i___law_refused, i___law_powers, i___law_odd, i__law]
theorem bds : BdAll fns fis := ⟨bd_is_integer, bd_is_ratio, bd_divisor, bd_make, bd_of, bd_add, bd_subtract, bd_multiply, bd_divide, bd_power, bd_less, bd_negative, bd_sign, bd_total, bd_dot, bd__law_tape, bd__law_draw, bd__law_same, bd__law_whole, bd__law_shared, bd__law_is, bd__law_refused, bd__law_powers, bd__law_odd, bd_law, True.intro⟩
theorem ck_is_integer : fiC tab f_is_integer i__is_integer = true := by kernel_rfl
theorem ck_is_ratio : fiC tab f_is_ratio i__is_ratio = true := by kernel_rfl
theorem ck_divisor : fiC tab f_divisor i__divisor = true := by kernel_rfl
theorem ck_make : fiC tab f_make i__make = true := by kernel_rfl
theorem ck_of : fiC tab f_of i__of = true := by kernel_rfl
theorem ck_add : fiC tab f_add i__add = true := by kernel_rfl
theorem ck_subtract : fiC tab f_subtract i__subtract = true := by kernel_rfl
theorem ck_multiply : fiC tab f_multiply i__multiply = true := by kernel_rfl
theorem ck_divide : fiC tab f_divide i__divide = true := by kernel_rfl
theorem ck_power : fiC tab f_power i__power = true := by kernel_rfl
theorem ck_less : fiC tab f_less i__less = true := by kernel_rfl
theorem ck_negative : fiC tab f_negative i__negative = true := by kernel_rfl
theorem ck_sign : fiC tab f_sign i__sign = true := by kernel_rfl
theorem ck_total : fiC tab f_total i__total = true := by kernel_rfl
theorem ck_dot : fiC tab f_dot i__dot = true := by kernel_rfl
theorem ck__law_tape : fiC tab f__law_tape i___law_tape = true := by kernel_rfl
theorem ck__law_draw : fiC tab f__law_draw i___law_draw = true := by kernel_rfl
theorem ck__law_same : fiC tab f__law_same i___law_same = true := by kernel_rfl
theorem ck__law_whole : fiC tab f__law_whole i___law_whole = true := by kernel_rfl
theorem ck__law_shared : fiC tab f__law_shared i___law_shared = true := by kernel_rfl
theorem ck__law_is : fiC tab f__law_is i___law_is = true := by kernel_rfl
theorem ck__law_refused : fiC tab f__law_refused i___law_refused = true := by kernel_rfl
theorem ck__law_powers : fiC tab f__law_powers i___law_powers = true := by kernel_rfl
theorem ck__law_odd : fiC tab f__law_odd i___law_odd = true := by kernel_rfl
theorem ck_law : fiC tab f_law i__law = true := by kernel_rfl
theorem cks : chkAll tab fns fis = true := by
  simp only [fns, fis, chkAll, ck_is_integer, ck_is_ratio, ck_divisor, ck_make, ck_of, ck_add, ck_subtract, ck_multiply, ck_divide, ck_power, ck_less, ck_negative, ck_sign, ck_total, ck_dot, ck__law_tape, ck__law_draw, ck__law_same, ck__law_whole, ck__law_shared, ck__law_is, ck__law_refused, ck__law_powers, ck__law_odd, ck_law]; rfl
end PL.K00
end
section
set_option Elab.async false
set_option linter.all false
set_option maxRecDepth 100000
set_option maxHeartbeats 0
namespace PL.K00
open PL PySem PySem.Spec PyProof.Rows L2
abbrev R : PySem.W.OpenRow := PySem.W.OpenLaw.row PySem.Challenge.rw_greatsums_k00_whole_fractions_reckoned
abbrev fa0 : List He.Fa := faOf tab
abbrev fn0 : List He.DefD := PL.fnOf tab fis
abbrev hk : PySem.W.Hook := hookY 5 fa0 fn0 (exOf tab)
def ob (s : PySem.W.SharedT) : AlY := obsY 5 fa0 fn0 (exOf tab) (HandSHeadRun.getT s)
theorem ob_eq (s : PySem.W.SharedT) : ob s = hk.obs s.abs := obsY_eq (HandSHeadRun.getT_eq s)
def nm0 : List Str := ["GreatError", "BadNumber", "ZERO", "ONE", "is_integer", "is_ratio", "divisor", "make", "of", "add", "subtract", "multiply", "divide", "power", "less", "negative", "sign", "total", "dot", "_law_tape", "_law_draw", "_law_same", "_law_whole", "_law_shared", "_law_is", "_law_refused", "_law_powers", "_law_odd"]
abbrev names : List Str := nm0
theorem run (w : World) : HandSHeadRun.RunEq R (PySem.W.view R.prog [31]) hk ob 4000 names w := by
  intro os
  kernel_rfl
theorem facts (hev : ∀ is : List Int, is.length ≤ 63 → ∃ h, callF fns 30 i_law [.sc is] [] = .ok (.bl true) h) {P : Program} {w : World} {K : PySem.W.Frag} {h : Heap} {mg : Str → Option Value} {f : Addr} (X : K.In h) (G : h.Ns mainGlobals mg) (hfa : mg ("law" : Str) = some (.ref f)) (c : He.SaysD fa0 fn0 K) (ex : exOf tab K = true) :
    ∃ (fd : FuncData) (sp : Sp), (∀ (s : Shared) (v : Value), BindsTo s fd ⟨[v], []⟩ [("script", v)]) ∧ (∀ (H : Hp) (a : Addr) (ns : List Int), ns.length ≤ 63 → SqL K H a (ns.map V.int) → sp [.ref a] H (fun v _ => v = .bl true) fun _ _ _ => False) ∧
      ∀ base : Heap, K.In base → base.Ns mainGlobals mg → FnOk P w K mg base CXN 31 f fd ["script"] sp := by
  have pf : PF tab fns fis (geOf tab K) (xaOf tab K) mg := pf_of X G c ex rfl rfl (by decide +kernel) cks bds
  obtain ⟨fd, F⟩ := pf.fun_ i_law i__law rfl
  have e := hfa.symm.trans (pf.fnm i_law "law" rfl)
  cases e
  have b := FunD.bindsA (ps := ["script"]) F fun _ _ _ _ _ _ us hl => match us, hl with | [_], _ => rfl
  exact ⟨fd, (fun vs H Q _ => spF (geOf tab K) (xaOf tab K) (callF fns 30) i_law vs H Q fun _ _ _ => False), fun s v => b s [v] rfl, fun H a ns hl hS => law_sp hev hl hS, fun base _ _ => fn_close (prog_ok pf 30 i_law i__law f_law rfl rfl fd F).1⟩
end PL.K00
end
section
set_option Elab.async false
set_option linter.all false
set_option maxRecDepth 100000
set_option maxHeartbeats 0
open PySem PySem.W PySem.Calls PyProof.Rows
theorem PySem.Challenge.cw_greatsums_k00_whole_fractions_reckoned_holds : PySem.Challenge.rw_greatsums_k00_whole_fractions_reckoned.Holds := by
  w_on; o_law
  refine HandSHeadRun.head_any (r := OpenLaw.row PySem.Challenge.rw_greatsums_k00_whole_fractions_reckoned) (q := view (OpenLaw.row PySem.Challenge.rw_greatsums_k00_whole_fractions_reckoned).prog [31]) (H := PL.K00.hk) (ob := PL.K00.ob) (M := 4000) (loose := PL.K00.names) (d := HandSHeadRun.topDef (OpenLaw.row PySem.Challenge.rw_greatsums_k00_whole_fractions_reckoned).prog 31) (kwd := []) PL.K00.ob_eq
    (by kernel_rfl) (fun s => by kernel_rfl) PL.K00.run (by kernel_rfl) (by kernel_rfl) (by kernel_rfl) (by rfl) (by first | assumption | decide +kernel) (by decide +kernel) ⟨rfl, rfl, rfl, rfl, rfl, by decide +kernel⟩ ?hw ?hc
  case hw => w_witness2
  case hc =>
    refine L2.walk_ofE (l := PySem.Challenge.rw_greatsums_k00_whole_fractions_reckoned) (n := 63) (k := 31) (x := "script") (CX := PL.CXN) rfl (by decide) (by kernel_rfl) ⟨rfl, by decide, by decide⟩ ?F ?G
    case G => exact fun _ _ _ _ z => z
    case F =>
      intro w mg fa h Y G hmg0
      obtain ⟨K, KX, c, ex⟩ := Y
      have hmg : mg ("law" : PySem.Str) = some (.ref fa) := by
        have e : (HandSHeadRun.topDef (OpenLaw.row PySem.Challenge.rw_greatsums_k00_whole_fractions_reckoned).prog 31).name = ("law" : PySem.Str) := by kernel_rfl
        rw [← e]
        exact hmg0
      obtain ⟨fd, sp, hb, hsp, hF⟩ := PL.K00.facts PL.K00.hev (P := (PySem.Challenge.rw_greatsums_k00_whole_fractions_reckoned).prog) (w := w) KX G hmg c ex
      exact ⟨K, fd, sp, KX, hb, fun H a ns hl _ hS => hsp H a ns hl hS, hF⟩
end
