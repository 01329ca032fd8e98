import PyProof.Rows.All
import Wide.All
import OpenK.AllK
import Wide.FinOn
import HandS.Base
import HandS.Call
import HandS.List
import HandS.Comp
import HandS.Dict
import HandS.Iter
import HandS.Text
import HandS.Exc
import HandS.ExcOwn
import HandS.TryOnly
import HandS.TryMany
import HandS.Words
import HandS.WordsList
import HandS.WordsExc
import HandS.Defaults
import HandS.Flow
import HandS.Style
import HandS.Wide
import HandS.IsInst
import HandS.Deep
import HandS.TupAny
import HandS.TupMul
import HandS.Conv
import HandS.SortInts
import HandS.SetFor
import HandS.Small
import HandS.Zip
import HandS.More
import HandS.CallLocal
import KE.GoesMore
import KE.GoesZip
import KE.KStateDown
import HandS.Ends
import HandS.Head0
import HandS.Head1
import HandS.Head2
import HandS.HeadEnd
import HandS.HeadHook1
import HandS.HeadHook2
import HandS.HeadHook4
import PySem.Challenge.RW_greatsums_k08_whole_papers_of_spans_judg
set_option Elab.async false
set_option linter.all false
section
set_option Elab.async false
set_option linter.all false
set_option maxRecDepth 100000
/-! PL: a small language of Python's pure part: values, syntax, a total evaluator. -/
namespace PL
abbrev Str := PySem.Str
/-- a value: tuples and lists that nothing changes are inlined; ref n: the list (dict) in cell n; fn f: a def -/
inductive D where
  | non | bl (b : Bool) | int (i : Int) | str (s : Str)
  | tup (xs : List D) | fl (xs : List D) | ref (n : Nat) | fn (f : Nat)
  /-- the script -/
  | sc (is : List Int)
mutual
def D.dec : (a b : D) → Decidable (a = b)
  | .non, b => match b with
    | .non => isTrue rfl
    | .bl _ | .int _ | .str _ | .tup _ | .fl _ | .ref _ | .fn _ | .sc _ => isFalse (fun h => by cases h)
  | .bl x, b => match b with
    | .bl y => if e : x = y then isTrue (by rw [e]) else isFalse (fun h => by cases h; exact e rfl)
    | .non | .int _ | .str _ | .tup _ | .fl _ | .ref _ | .fn _ | .sc _ => isFalse (fun h => by cases h)
  | .int x, b => match b with
    | .int y => if e : x = y then isTrue (by rw [e]) else isFalse (fun h => by cases h; exact e rfl)
    | .non | .bl _ | .str _ | .tup _ | .fl _ | .ref _ | .fn _ | .sc _ => isFalse (fun h => by cases h)
  | .str x, b => match b with
    | .str y => if e : x = y then isTrue (by rw [e]) else isFalse (fun h => by cases h; exact e rfl)
    | .non | .bl _ | .int _ | .tup _ | .fl _ | .ref _ | .fn _ | .sc _ => isFalse (fun h => by cases h)
  | .tup x, b => match b with
    | .tup y => match D.decL x y with
      | isTrue e => isTrue (by rw [e])
      | isFalse e => isFalse (fun h => by cases h; exact e rfl)
    | .non | .bl _ | .int _ | .str _ | .fl _ | .ref _ | .fn _ | .sc _ => isFalse (fun h => by cases h)
  | .fl x, b => match b with
    | .fl y => match D.decL x y with
      | isTrue e => isTrue (by rw [e])
      | isFalse e => isFalse (fun h => by cases h; exact e rfl)
    | .non | .bl _ | .int _ | .str _ | .tup _ | .ref _ | .fn _ | .sc _ => isFalse (fun h => by cases h)
  | .ref x, b => match b with
    | .ref y => if e : x = y then isTrue (by rw [e]) else isFalse (fun h => by cases h; exact e rfl)
    | .non | .bl _ | .int _ | .str _ | .tup _ | .fl _ | .fn _ | .sc _ => isFalse (fun h => by cases h)
  | .fn x, b => match b with
    | .fn y => if e : x = y then isTrue (by rw [e]) else isFalse (fun h => by cases h; exact e rfl)
    | .non | .bl _ | .int _ | .str _ | .tup _ | .fl _ | .ref _ | .sc _ => isFalse (fun h => by cases h)
  | .sc x, b => match b with
    | .sc y => if e : x = y then isTrue (by rw [e]) else isFalse (fun h => by cases h; exact e rfl)
    | .non | .bl _ | .int _ | .str _ | .tup _ | .fl _ | .ref _ | .fn _ => isFalse (fun h => by cases h)
def D.decL : (a b : List D) → Decidable (a = b)
  | [], b => match b with
    | [] => isTrue rfl
    | _ :: _ => isFalse (fun h => by cases h)
  | x :: xs, b => match b with
    | [] => isFalse (fun h => by cases h)
    | y :: ys => match D.dec x y with
      | isFalse e => isFalse (fun h => by cases h; exact e rfl)
      | isTrue e => match D.decL xs ys with
        | isFalse e' => isFalse (fun h => by cases h; exact e' rfl)
        | isTrue e' => isTrue (by rw [e, e'])
end
instance : DecidableEq D := D.dec
/-- what stands in a heap cell -/
inductive Cell where
  | lst (xs : List D)
  | dic (kvs : List (D × D))
  | obj (c : Nat) (fs : List (Str × D))
  deriving DecidableEq
abbrev Hpp := List Cell
abbrev Env := List (Option D)
/-- an expression's outcome: a value; an exception of the class numbered c; nothing that we tell -/
inductive R (α : Type) where
  | ok (a : α) (h : Hpp)
  | er (c : Nat) (h : Hpp)
  | no
def R.bind {α β : Type} (r : R α) (f : α → Hpp → R β) : R β := match r with
  | .ok a h => f a h
  | .er c h => .er c h
  | .no => .no
@[simp] theorem R.bind_ok {α β : Type} (a : α) (h : Hpp) (f : α → Hpp → R β) : (R.ok a h).bind f = f a h := id rfl
@[simp] theorem R.bind_er {α β : Type} (c : Nat) (h : Hpp) (f : α → Hpp → R β) : (R.er c h : R α).bind f = .er c h := id rfl
@[simp] theorem R.bind_no {α β : Type} (f : α → Hpp → R β) : (R.no : R α).bind f = .no := id rfl
/-- a statement's outcome -/
inductive O where
  | nx (ρ : Env) (h : Hpp)
  | rt (d : D) (h : Hpp)
  | bk (ρ : Env) (h : Hpp)
  | ct (ρ : Env) (h : Hpp)
  | er (c : Nat) (ρ : Env) (h : Hpp)
  | no
inductive Bop where
  | add | sub | mul | fdiv | mod
  deriving DecidableEq
inductive Cop where
  | eq | ne | lt | le | gt | ge
  deriving DecidableEq
/-- built-in functions of values -/
inductive Bi where
  | len | abs | int | all | any | tuple | list | sum | max | min | sorted | dict
  deriving DecidableEq
/-- methods of lists and dicts -/
inductive Mt where
  | append | extend | insert | pop | remove | index | count | get
  deriving DecidableEq
inductive Ty where
  | int | bool | str | tuple | list
  deriving DecidableEq
/-- where a for stores: names, nested -/
inductive Tg where
  | nil
  | name (i : Nat)
  | tup (ts : Tg)
  | cons (t ts : Tg)
mutual
inductive E where
  | cst (d : D)
  | var (i : Nat)
  | glb (x : Str) (d : D)
  | tup (es : Es)
  | lst (th : Bool) (es : Es)
  | bin (th : Bool) (op : Bop) (a b : E)
  | neg (a : E)
  | not (a : E)
  | and (a b : E)
  | or (a b : E)
  | cmp (op : Cop) (a b : E)
  | isN (ng : Bool) (a : E)
  | inn (ng : Bool) (a b : E)
  | chain (o1 o2 : Cop) (a b c : E)
  | ite (c a b : E)
  | call (f : Nat) (es : Es)
  | callv (i : Nat) (es : Es)
  | bi (b : Bi) (th : Bool) (es : Es)
  | conv (b : Bi) (th : Bool) (it : Itr)
  | isi (a : E) (ts : List Ty)
  | mth (m : Mt) (o : E) (es : Es)
  | idx (a b : E)
  | sl (th : Bool) (a : E) (lo hi : Es)
  | rev (th : Bool) (a : E)
  | comp (th : Bool) (elt : E) (tg : Tg) (it : Itr) (cs : Es) (own : List Nat)
  | comp2 (th : Bool) (elt : E) (tg : Tg) (it : Itr) (cs : Es) (tg1 : Tg) (it1 : Itr) (cs1 : Es) (own : List Nat)
  | dic (ks vs : Es)
inductive Es where
  | nil
  | cons (e : E) (es : Es)
inductive Itr where
  | of (e : E)
  | range1 (a : E)
  | range2 (a b : E)
  | range3 (a b c : E)
  | enum (e : E)
  | zip (a b : E)
end
inductive Lv where
  | nil
  | name (i : Nat)
  | tup (ts : Lv)
  | cons (t ts : Lv)
  | sub (a b : E)
mutual
inductive S where
  | exp (e : E)
  | asg (t : Lv) (e : E)
  | aug (i : Nat) (op : Bop) (e : E)
  | augs (a b : E) (op : Bop) (e : E)
  | iff (c : E) (a b : Ss)
  | whl (c : E) (b : Ss)
  | for_ (tg : Tg) (it : Itr) (b : Ss)
  | ret (e : E)
  | retn
  | raise (c : Nat)
  | tr (b : Ss) (hs : Hs)
  | pass
  | cont
  | brk
inductive Ss where
  | nil
  | unk
  | cons (s : S) (ss : Ss)
inductive Hs where
  | nil
  | cons (c : Nat) (d : D) (hs : Hs)
end
def Lv.len : Lv → Nat
  | .cons _ ts => ts.len + 1
  | _ => 0
/-! ### values -/
def line : Nat := 16777216
def seqOf (d : D) (h : Hpp) : Option (List D) := match d with
  | .tup xs => some xs
  | .fl xs => some xs
  | .ref n => match h[n]? with
    | some (.lst xs) => some xs
    | _ => none
  | .sc is => some (is.map D.int)
  | _ => none
def lstOf (d : D) (h : Hpp) : Option (List D) := match d with
  | .fl xs => some xs
  | .ref n => match h[n]? with
    | some (.lst xs) => some xs
    | _ => none
  | _ => none
/-- .. of a list, the script too -/
def lsOf (d : D) (h : Hpp) : Option (List D) := match d with
  | .sc is => some (is.map D.int)
  | d => lstOf d h
/-- a new list: in a cell of its own, or as a value -/
def new (th : Bool) (xs : List D) (h : Hpp) : R D := match th with
  | true => .ok (.ref h.length) (h ++ [.lst xs])
  | false => .ok (.fl xs) h
def truthy (d : D) (h : Hpp) : Option Bool := match d with
  | .non => some false
  | .bl b => some b
  | .int i => some (decide (i ≠ 0))
  | .str s => if s.length ≤ line then some (decide (s.length ≠ 0)) else none
  | .tup xs => some (!xs.isEmpty)
  | .fl xs => some (!xs.isEmpty)
  | .ref n => match h[n]? with
    | some (.lst xs) => some (!xs.isEmpty)
    | _ => none
  | .fn _ => none
  | .sc _ => none
/-- the place of an index in a row of n -/
def ixN (n : Nat) (i : Int) : Option Nat := if 0 ≤ i then (if i < n then some i.toNat else none) else if -(n : Int) ≤ i then some (i + n).toNat else none
def atI {α : Type} (xs : List α) (i : Int) : Option α := match ixN xs.length i with
  | some j => xs[j]?
  | none => none
/-- a slice's end -/
def clip (n : Nat) (i : Int) : Nat := if i < 0 then (if i + n < 0 then 0 else (i + n).toNat) else if i < n then i.toNat else n
def cut {α : Type} (xs : List α) (lo hi : Option Int) : List α :=
  let a := match lo with
    | some i => clip xs.length i
    | none => 0
  let b := match hi with
    | some i => clip xs.length i
    | none => xs.length
  (xs.drop a).take (b - a)
mutual
/-- flat enough, and no cells, no defs: to be compared -/
def fit : Nat → D → Bool
  | _, .non => true
  | _, .bl _ => true
  | _, .int _ => true
  | _, .str s => PySem.PyData.strOk s
  | 0, .tup _ => false
  | 0, .fl _ => false
  | k + 1, .tup xs => fitL k xs
  | k + 1, .fl xs => fitL k xs
  | _, .ref _ => false
  | _, .fn _ => false
  | _, .sc _ => false
def fitL : Nat → List D → Bool
  | _, [] => true
  | k, x :: xs => fit k x && fitL k xs
end
mutual
/-- Python's == -/
def deq : D → D → Bool
  | .non, .non => true
  | .bl a, .bl b => a == b
  | .bl a, .int j => (if a then 1 else 0) == j
  | .int i, .bl b => i == (if b then 1 else 0)
  | .int i, .int j => i == j
  | .str x, .str y => x == y
  | .tup xs, .tup ys => deqL xs ys
  | .fl xs, .fl ys => deqL xs ys
  | _, _ => false
def deqL : List D → List D → Bool
  | [], [] => true
  | x :: xs, y :: ys => deq x y && deqL xs ys
  | _, _ => false
end
/-- a cell's list as a value -/
def res (d : D) (h : Hpp) : D := match d with
  | .ref n => match h[n]? with
    | some (.lst xs) => .fl xs
    | _ => .ref n
  | d => d
def pyEq (x y : D) (h : Hpp) : Option Bool := if fit 60 (res x h) && fit 60 (res y h) then some (deq (res x h) (res y h)) else none
def mulOk (a b : Int) : Bool := decide (a.natAbs < 2 ^ 64) || decide (b.natAbs < 2 ^ 64) || decide (a.natAbs.log2 + b.natAbs.log2 < 1000000)
def divOk (b : Int) : Bool := decide (b ≠ 0) && decide (b.natAbs.log2 < 9000)
def opt {α : Type} (o : Option α) (h : Hpp) : R α := match o with
  | some a => .ok a h
  | none => .no
@[simp] theorem opt_some {α : Type} (a : α) (h : Hpp) : opt (some a) h = .ok a h := id rfl
@[simp] theorem opt_none {α : Type} (h : Hpp) : opt (none : Option α) h = .no := id rfl
def bopL (op : Bop) (th : Bool) (x y : D) (h : Hpp) : R D := match op with
  | .add => match lstOf x h, lstOf y h with
    | some xs, some ys => if xs.length + ys.length ≤ line then new th (xs ++ ys) h else .no
    | _, _ => .no
  | .mul => match lstOf x h, y with
    | some xs, .int k => if -(2 ^ 63) ≤ k ∧ k < 2 ^ 63 ∧ xs.length * k.toNat ≤ line then new th (List.replicate k.toNat xs).flatten h else .no
    | _, _ => .no
  | _ => .no
def bop (op : Bop) (th : Bool) (x y : D) (h : Hpp) : R D := match x, y with
  | .int a, .int b => match op with
    | .add => .ok (.int (a + b)) h
    | .sub => .ok (.int (a - b)) h
    | .mul => if mulOk a b then .ok (.int (a * b)) h else .no
    | .fdiv => if divOk b then .ok (.int (a.fdiv b)) h else .no
    | .mod => if b ≠ 0 then .ok (.int (a.fmod b)) h else .no
  | .tup xs, .tup ys => match op with
    | .add => if xs.length + ys.length ≤ line then .ok (.tup (xs ++ ys)) h else .no
    | _ => .no
  | .tup xs, .int k => match op with
    | .mul => if -1000 ≤ k ∧ k ≤ 1000 ∧ xs.length ≤ 1000 ∧ xs.isEmpty = false then .ok (.tup (List.replicate k.toNat xs).flatten) h else .no
    | _ => .no
  | .str a, .str b => match op with
    | .add => if a.length + b.length ≤ line then .ok (.str (a ++ b)) h else .no
    | _ => .no
  | _, _ => bopL op th x y h
def lexLt : List Int → List Int → Bool
  | [], [] => false
  | [], _ :: _ => true
  | _ :: _, [] => false
  | a :: as, b :: bs => if a = b then lexLt as bs else decide (a < b)
def intsOf : List D → Option (List Int)
  | [] => some []
  | .int i :: r => (intsOf r).map (i :: ·)
  | _ :: _ => none
def cop (op : Cop) (x y : D) (h : Hpp) : Option Bool := match op with
  | .eq => pyEq x y h
  | .ne => (pyEq x y h).map (!·)
  | .lt => match x, y with
    | .int a, .int b => some (decide (a < b))
    | .tup xs, .tup ys => match intsOf xs, intsOf ys with
      | some as, some bs => some (lexLt as bs)
      | _, _ => none
    | _, _ => none
  | .le => match x, y with
    | .int a, .int b => some (decide (a ≤ b))
    | _, _ => none
  | .gt => match x, y with
    | .int a, .int b => some (decide (a > b))
    | _, _ => none
  | .ge => match x, y with
    | .int a, .int b => some (decide (a ≥ b))
    | _, _ => none
def isTy (d : D) (h : Hpp) : Ty → Bool := fun t => match d, t with
  | .bl _, .int => true
  | .bl _, .bool => true
  | .int _, .int => true
  | .str _, .str => true
  | .tup _, .tuple => true
  | .fl _, .list => true
  | .ref n, .list => match h[n]? with
    | some (.lst _) => true
    | _ => false
  | _, _ => false
def tyOk (d : D) (h : Hpp) : Bool := match d with
  | .ref n => match h[n]? with
    | some (.lst _) => true
    | _ => false
  | .fn _ => false
  | .sc _ => false
  | _ => true
def blsOf : List D → Option (List Bool)
  | [] => some []
  | .bl b :: r => (blsOf r).map (b :: ·)
  | _ :: _ => none
def insI (x : Int) : List Int → List Int
  | [] => [x]
  | y :: r => if x ≤ y then x :: y :: r else y :: insI x r
def sortI : List Int → List Int
  | [] => []
  | x :: r => insI x (sortI r)
def strsOf : List D → Option (List Str)
  | [] => some []
  | .str i :: r => (strsOf r).map (i :: ·)
  | _ :: _ => none
/-- rows of intsOf of one length -/
def tups : List D → Option (List (List Int))
  | [] => some []
  | .tup xs :: r => match intsOf xs, tups r with
    | some is, some rs => some (is :: rs)
    | _, _ => none
  | _ :: _ => none
def insT (x : List Int) : List (List Int) → List (List Int)
  | [] => [x]
  | y :: r => if lexLt y x then y :: insT x r else x :: y :: r
def sortT : List (List Int) → List (List Int)
  | [] => []
  | x :: r => insT x (sortT r)
def maxI : Int → List Int → Int
  | m, [] => m
  | m, x :: r => maxI (if m < x then x else m) r
def minI : Int → List Int → Int
  | m, [] => m
  | m, x :: r => minI (if x < m then x else m) r
def sorted (xs : List D) : Option (List D) := match intsOf xs with
  | some is => some ((sortI is).map D.int)
  | none => match tups xs with
    | some ts => some ((sortT ts).map fun t => D.tup (t.map D.int))
    | none => none
def find (k : D) (h : Hpp) : List (D × D) → Option (Option D)
  | [] => some none
  | (x, v) :: r => match pyEq x k h with
    | some true => some (some v)
    | some false => find k h r
    | none => none
def put (k v : D) (h : Hpp) : List (D × D) → Option (List (D × D))
  | [] => some [(k, v)]
  | (x, u) :: r => match pyEq x k h with
    | some true => some ((x, v) :: r)
    | some false => (put k v h r).map ((x, u) :: ·)
    | none => none
def putAll (h : Hpp) : List (D × D) → List (D × D) → Option (List (D × D))
  | [], acc => some acc
  | (k, v) :: r, acc => match put k v h acc with
    | some acc' => putAll h r acc'
    | none => none
def pairs : List D → Option (List (D × D))
  | [] => some []
  | .tup [a, b] :: r => (pairs r).map ((a, b) :: ·)
  | _ :: _ => none
def newD (kvs : List (D × D)) (h : Hpp) : R D := .ok (.ref h.length) (h ++ [.dic kvs])
def dicOf (d : D) (h : Hpp) : Option (List (D × D)) := match d with
  | .ref n => match h[n]? with
    | some (.dic kvs) => some kvs
    | _ => none
  | _ => none
/-- the keys of a dict, the items of a row: what a for over it walks -/
def itemsOf (d : D) (h : Hpp) : Option (List D) := match seqOf d h with
  | some xs => some xs
  | none => match dicOf d h with
    | some kvs => some (kvs.map (·.1))
    | none => match d with
      | .str s => some (s.cps.toList.map fun c => .str ⟨#[c]⟩)
      | _ => none
def inSeq (x : D) (h : Hpp) : List D → Option Bool
  | [] => some false
  | y :: r => match pyEq y x h with
    | some true => some true
    | some false => inSeq x h r
    | none => none
def inD (x y : D) (h : Hpp) : Option Bool := if fit 60 (res x h) && fit 60 (res y h) then match res y h with
    | .fl ys => some (ys.any fun z => deq z (res x h))
    | .tup ys => some (ys.any fun z => deq z (res x h))
    | _ => none
  else none
def idxOf (x : D) (h : Hpp) : List D → Option (Option Nat)
  | [] => some none
  | y :: r => match pyEq y x h with
    | some true => some (some 0)
    | some false => match idxOf x h r with
      | some (some k) => some (some (k + 1))
      | o => o
    | none => none
def cntOf (x : D) (h : Hpp) : List D → Option Nat
  | [] => some 0
  | y :: r => match pyEq y x h, cntOf x h r with
    | some b, some n => some (if b then n + 1 else n)
    | _, _ => none
def item (x y : D) (h : Hpp) : Option D := match x, y with
  | .str s, .int i => if s.length ≤ line then match atI s.cps.toList i with
    | some c => some (.str ⟨#[c]⟩)
    | none => none
    else none
  | x, y => match dicOf x h with
    | some kvs => match find y h kvs with
      | some (some v) => some v
      | _ => none
    | none => match seqOf x h, y with
      | some xs, .int i => atI xs i
      | _, _ => none
def slice (th : Bool) (x : D) (lo hi : Option Int) (h : Hpp) : R D := match x with
  | .tup xs => .ok (.tup (cut xs lo hi)) h
  | .str s => if s.length ≤ line then .ok (.str ⟨(cut s.cps.toList lo hi).toArray⟩) h else .no
  | x => match lsOf x h with
    | some xs => new th (cut xs lo hi) h
    | none => .no
def revd (th : Bool) (x : D) (h : Hpp) : R D := match lsOf x h with
  | some xs => new th xs.reverse h
  | none => .no
def doBi (b : Bi) (th : Bool) (ds : List D) (h : Hpp) : R D := match b, ds with
  | .len, [d] => match seqOf d h with
    | some xs => .ok (.int xs.length) h
    | none => match dicOf d h with
      | some kvs => .ok (.int kvs.length) h
      | none => match d with
        | .str s => if s.length ≤ line then .ok (.int s.length) h else .no
        | _ => .no
  | .abs, [.int i] => .ok (.int (if i < 0 then -i else i)) h
  | .int, [.int i] => .ok (.int i) h
  | .int, [.bl b] => .ok (.int (if b then 1 else 0)) h
  | .all, [d] => match lstOf d h with
    | some xs => match blsOf xs with
      | some bs => .ok (.bl (bs.all id)) h
      | none => .no
    | none => .no
  | .any, [d] => match lstOf d h with
    | some xs => match blsOf xs with
      | some bs => .ok (.bl (bs.any id)) h
      | none => .no
    | none => .no
  | .tuple, [d] => match seqOf d h with
    | some xs => .ok (.tup xs) h
    | none => .no
  | .list, [d] => match seqOf d h with
    | some xs => new th xs h
    | none => .no
  | .sum, [d] => match lsOf d h with
    | some xs => match intsOf xs with
      | some is => .ok (.int is.sum) h
      | none => .no
    | none => .no
  | .max, [.int a, .int b] => .ok (.int (if b > a then b else a)) h
  | .min, [.int a, .int b] => .ok (.int (if b < a then b else a)) h
  | .max, [d] => match lsOf d h with
    | some xs => match intsOf xs with
      | some (i :: is) => .ok (.int (maxI i is)) h
      | _ => .no
    | none => .no
  | .min, [d] => match lsOf d h with
    | some xs => match intsOf xs with
      | some (i :: is) => .ok (.int (minI i is)) h
      | _ => .no
    | none => .no
  | .sorted, [d] => match itemsOf d h with
    | some xs => match sorted xs with
      | some ys => new th ys h
      | none => .no
    | none => .no
  | .dict, [d] => match seqOf d h with
    | some xs => match pairs xs with
      | some kvs => match putAll h kvs [] with
        | some l => newD l h
        | none => .no
      | none => .no
    | none => .no
  | _, _ => .no
/-- a list in a cell -/
def refOf (o : D) (h : Hpp) : Option (Nat × List D) := match o with
  | .ref n => match h[n]? with
    | some (.lst xs) => some (n, xs)
    | _ => none
  | _ => none
def mtAppend (o : D) (ds : List D) (h : Hpp) : R D := match ds, refOf o h with
  | [d], some (n, xs) => if xs.length < line then .ok .non (h.set n (.lst (xs ++ [d]))) else .no
  | _, _ => .no
def mtExtend (o : D) (ds : List D) (h : Hpp) : R D := match ds, refOf o h with
  | [d], some (n, xs) => match lstOf d h with
    | some ys => if xs.length + ys.length ≤ line then .ok .non (h.set n (.lst (xs ++ ys))) else .no
    | none => .no
  | _, _ => .no
def mtPop (o : D) (ds : List D) (h : Hpp) : R D := match ds, refOf o h with
  | [], some (n, xs) => match xs[xs.length - 1]? with
    | some d => .ok d (h.set n (.lst xs.dropLast))
    | none => .no
  | [.int i], some (n, xs) => match ixN xs.length i with
    | some k => match xs[k]? with
      | some d => .ok d (h.set n (.lst (xs.eraseIdx k)))
      | none => .no
    | none => .no
  | _, _ => .no
def mtInsert (o : D) (ds : List D) (h : Hpp) : R D := match ds, refOf o h with
  | [.int i, d], some (n, xs) => if xs.length < line ∧ 0 ≤ i ∧ i < 2 ^ 63 then .ok .non (h.set n (.lst (xs.take i.toNat ++ [d] ++ xs.drop i.toNat))) else .no
  | _, _ => .no
def mtRemove (o : D) (ds : List D) (h : Hpp) : R D := match ds, refOf o h with
  | [d], some (n, xs) => match idxOf d h xs with
    | some (some k) => .ok .non (h.set n (.lst (xs.eraseIdx k)))
    | _ => .no
  | _, _ => .no
def mtIndex (o : D) (ds : List D) (h : Hpp) : R D := match ds with
  | [d] => if fit 60 (res d h) && fit 60 (res o h) then match res o h with
    | .fl ys => match ys.findIdx? fun z => deq z (res d h) with
      | some k => .ok (.int k) h
      | none => .no
    | _ => .no
    else .no
  | _ => .no
def mtCount (o : D) (ds : List D) (h : Hpp) : R D := match ds, seqOf o h with
  | [d], some xs => match cntOf d h xs with
    | some k => .ok (.int k) h
    | none => .no
  | _, _ => .no
def mtGet (o : D) (ds : List D) (h : Hpp) : R D := match ds, dicOf o h with
  | [k], some kvs => match find k h kvs with
    | some (some v) => .ok v h
    | some none => .ok .non h
    | none => .no
  | [k, d], some kvs => match find k h kvs with
    | some (some v) => .ok v h
    | some none => .ok d h
    | none => .no
  | _, _ => .no
/-- the receiver is of the method's kind -/
def mtRecv (m : Mt) (o : D) (h : Hpp) : Bool := match m with
  | .get => (dicOf o h).isSome
  | _ => (lstOf o h).isSome
def doMt (m : Mt) (o : D) (ds : List D) (h : Hpp) : R D := match m with
  | .append => mtAppend o ds h
  | .extend => mtExtend o ds h
  | .insert => mtInsert o ds h
  | .pop => mtPop o ds h
  | .remove => mtRemove o ds h
  | .index => mtIndex o ds h
  | .count => mtCount o ds h
  | .get => mtGet o ds h
def setItem (o i v : D) (h : Hpp) : Option Hpp := match o with
  | .ref n => match h[n]? with
    | some (.lst xs) => match i with
      | .int i => match ixN xs.length i with
        | some k => some (h.set n (.lst (xs.set k v)))
        | none => none
      | _ => none
    | some (.dic kvs) => match put i v h kvs with
      | some l => if l.length ≤ line then some (h.set n (.dic l)) else none
      | none => none
    | _ => none
  | _ => none
/-! ### targets, what is walked -/
mutual
def sto : Tg → Env → D → Option Env
  | .nil, _, _ => none
  | .name i, ρ, d => some (ρ.set i (some d))
  | .tup ts, ρ, d => match d with
    | .tup xs => stos ts ρ xs
    | _ => none
  | .cons _ _, _, _ => none
def stos : Tg → Env → List D → Option Env
  | .nil, ρ, ds => match ds with
    | [] => some ρ
    | _ :: _ => none
  | .cons t ts, ρ, ds => match ds with
    | [] => none
    | d :: r => match sto t ρ d with
      | some ρ' => stos ts ρ' r
      | none => none
  | .name _, _, _ => none
  | .tup _, _, _ => none
end
def wipe (ρ : Env) : List Nat → Env
  | [] => ρ
  | i :: r => (wipe ρ r).set i none
/-- what a loop walks: the items; the cells that must stay as they are -/
structure Src where
  items : List D
  held : List (Nat × Cell)
def Src.ok (s : Src) (h : Hpp) : Bool := s.held.all fun p => decide (h[p.1]? = some p.2)
def heldOf (d : D) (h : Hpp) : List (Nat × Cell) := match d with
  | .ref n => match h[n]? with
    | some c => [(n, c)]
    | none => []
  | _ => []
def srcOf (d : D) (h : Hpp) : R Src := match seqOf d h with
  | some xs => .ok ⟨xs, heldOf d h⟩ h
  | none => .no
def rangeL (lo : Int) (n : Nat) (c : Int) : List D := (List.range n).map fun (i : Nat) => .int (lo + (i : Int) * c)
def srcRange (lo hi : Int) (h : Hpp) : R Src :=
  if -(2 ^ 62) ≤ lo ∧ lo < 2 ^ 62 ∧ -(2 ^ 62) ≤ hi ∧ hi < 2 ^ 62 ∧ (hi - lo).toNat ≤ line then .ok ⟨rangeL lo (hi - lo).toNat 1, []⟩ h else .no
def srcDown (lo hi : Int) (h : Hpp) : R Src :=
  if -(2 ^ 62) ≤ lo ∧ lo < 2 ^ 62 ∧ -(2 ^ 62) ≤ hi ∧ hi < 2 ^ 62 ∧ (lo - hi).toNat ≤ line then .ok ⟨rangeL lo (lo - hi).toNat (-1), []⟩ h else .no
def enumL : Nat → List D → List D
  | _, [] => []
  | k, d :: r => .tup [.int k, d] :: enumL (k + 1) r
def zipL : List D → List D → List D
  | x :: xs, y :: ys => .tup [x, y] :: zipL xs ys
  | _, _ => []
/-- two rows -/
def zipOf (x y : D) (h : Hpp) : Option (List D) := match seqOf x h, seqOf y h with
  | some xs, some ys => some (zipL xs ys)
  | _, _ => none
/-! ### loops -/
/-- a comprehension's turns -/
def compL (ck : Hpp → Bool) (tg : D → Option Env) (cs : Env → Hpp → R Bool) (el : Env → Hpp → R D) : List D → Hpp → R (List D)
  | [], h => if ck h then .ok [] h else .no
  | d :: ds, h => if ck h then match tg d with
    | none => .no
    | some ρ => (cs ρ h).bind fun b h1 => match b with
      | true => (el ρ h1).bind fun y h2 => (compL ck tg cs el ds h2).bind fun ys h3 => .ok (y :: ys) h3
      | false => compL ck tg cs el ds h1
    else .no
/-- .. of two clauses -/
def compM (ck : Hpp → Bool) (tg : D → Option Env) (cs : Env → Hpp → R Bool) (el : Env → Hpp → R (List D)) : List D → Hpp → R (List D)
  | [], h => if ck h then .ok [] h else .no
  | d :: ds, h => if ck h then match tg d with
    | none => .no
    | some ρ => (cs ρ h).bind fun b h1 => match b with
      | true => (el ρ h1).bind fun y h2 => (compM ck tg cs el ds h2).bind fun ys h3 => .ok (y ++ ys) h3
      | false => compM ck tg cs el ds h1
    else .no
/-- an error within a comprehension is nothing that we tell -/
def noEr {α : Type} (r : R α) : R α := match r with
  | .er _ _ => .no
  | r => r
def forL (ck : Hpp → Bool) (tg : Env → D → Option Env) (b : Env → Hpp → O) : List D → Env → Hpp → O
  | [], ρ, h => if ck h then .nx ρ h else .no
  | d :: ds, ρ, h => if ck h then match tg ρ d with
    | none => .no
    | some ρ1 => match b ρ1 h with
      | .nx ρ2 h2 => forL ck tg b ds ρ2 h2
      | .ct ρ2 h2 => forL ck tg b ds ρ2 h2
      | .bk ρ2 h2 => .nx ρ2 h2
      | o => o
    else .no
def whileO (c : Env → Hpp → R Bool) (b : Env → Hpp → O) (ρ : Env) (h : Hpp) : Option O :=
  match c ρ h with
  | .ok true h1 => match b ρ h1 with
    | .nx ρ' h' => whileO c b ρ' h'
    | .ct ρ' h' => whileO c b ρ' h'
    | .bk ρ' h' => some (.nx ρ' h')
    | .no => none
    | .rt d h' => some (.rt d h')
    | .er x ρ' h' => some (.er x ρ' h')
  | .ok false h1 => some (.nx ρ h1)
  | .er x h1 => some (.er x ρ h1)
  | .no => none
partial_fixpoint
def whileL (c : Env → Hpp → R Bool) (b : Env → Hpp → O) (ρ : Env) (h : Hpp) : O := (whileO c b ρ h).getD .no
/-! ### the evaluator: cal f ds h: what a call of the def f tells -/
abbrev Cal := Nat → List D → Hpp → R D
def tru (r : R D) : R Bool := r.bind fun d h => opt (truthy d h) h
mutual
def ev (cal : Cal) : E → Env → Hpp → R D
  | .cst d, _, h => .ok d h
  | .var i, ρ, h => match ρ[i]? with
    | some (some d) => .ok d h
    | _ => .no
  | .glb _ d, _, h => .ok d h
  | .tup es, ρ, h => (evs cal es ρ h).bind fun ds h => .ok (.tup ds) h
  | .lst th es, ρ, h => (evs cal es ρ h).bind fun ds h => new th ds h
  | .bin th op a b, ρ, h => (ev cal a ρ h).bind fun x h => (ev cal b ρ h).bind fun y h => bop op th x y h
  | .neg a, ρ, h => (ev cal a ρ h).bind fun x h => match x with
    | .int i => .ok (.int (-i)) h
    | _ => .no
  | .not a, ρ, h => (tru (ev cal a ρ h)).bind fun b h => .ok (.bl (!b)) h
  | .and a b, ρ, h => (ev cal a ρ h).bind fun x h => (opt (truthy x h) h).bind fun k h => match k with
    | true => ev cal b ρ h
    | false => .ok x h
  | .or a b, ρ, h => (ev cal a ρ h).bind fun x h => (opt (truthy x h) h).bind fun k h => match k with
    | true => .ok x h
    | false => ev cal b ρ h
  | .cmp op a b, ρ, h => (ev cal a ρ h).bind fun x h => (ev cal b ρ h).bind fun y h => (opt (cop op x y h) h).bind fun k h => .ok (.bl k) h
  | .isN ng a, ρ, h => (ev cal a ρ h).bind fun x h => .ok (.bl (decide (x = .non) != ng)) h
  | .inn ng a b, ρ, h => (ev cal a ρ h).bind fun x h => (ev cal b ρ h).bind fun y h => (opt (inD x y h) h).bind fun k h => .ok (.bl (k != ng)) h
  | .chain o1 o2 a b c, ρ, h => (ev cal a ρ h).bind fun x h => (ev cal b ρ h).bind fun y h => (opt (cop o1 x y h) h).bind fun k h => match k with
    | false => .ok (.bl false) h
    | true => (ev cal c ρ h).bind fun z h => (opt (cop o2 y z h) h).bind fun k h => .ok (.bl k) h
  | .ite c a b, ρ, h => (tru (ev cal c ρ h)).bind fun k h => match k with
    | true => ev cal a ρ h
    | false => ev cal b ρ h
  | .call f es, ρ, h => (evs cal es ρ h).bind fun ds h => cal f ds h
  | .callv i es, ρ, h => match ρ[i]? with
    | some (some (.fn f)) => (evs cal es ρ h).bind fun ds h => cal f ds h
    | _ => .no
  | .bi b th es, ρ, h => (evs cal es ρ h).bind fun ds h => doBi b th ds h
  | .conv b th it, ρ, h => (src cal it ρ h).bind fun s h => match b with
    | .list => new th s.items h
    | .tuple => .ok (.tup s.items) h
    | _ => .no
  | .isi a ts, ρ, h => (ev cal a ρ h).bind fun x h => if tyOk x h then .ok (.bl (ts.any fun t => isTy x h t)) h else .no
  | .mth m o es, ρ, h => (ev cal o ρ h).bind fun x h => if mtRecv m x h then (evs cal es ρ h).bind fun ds h => doMt m x ds h else .no
  | .idx a b, ρ, h => (ev cal a ρ h).bind fun x h => (ev cal b ρ h).bind fun y h => opt (item x y h) h
  | .sl th a lo hi, ρ, h => (ev cal a ρ h).bind fun x h => (evo cal lo ρ h).bind fun l h => (evo cal hi ρ h).bind fun u h => slice th x l u h
  | .rev th a, ρ, h => (ev cal a ρ h).bind fun x h => revd th x h
  | .comp th elt tg it cs own, ρ, h => (src cal it ρ h).bind fun s h => if s.items.length ≤ line then
      (noEr (compL s.ok (fun d => sto tg (wipe ρ own) d) (fun ρ h => evc cal cs ρ h) (fun ρ h => ev cal elt ρ h) s.items h)).bind fun ds h => new th ds h
      else .no
  | .comp2 th elt tg it cs tg1 it1 cs1 own, ρ, h => (src cal it ρ h).bind fun s h =>
      (noEr (compM s.ok (fun d => sto tg (wipe ρ own) d) (fun ρ h => evc cal cs ρ h)
        (fun ρ h => (src cal it1 ρ h).bind fun s1 h => compL s1.ok (fun d => sto tg1 ρ d) (fun ρ h => evc cal cs1 ρ h) (fun ρ h => ev cal elt ρ h) s1.items h) s.items h)).bind fun ds h =>
      if ds.length ≤ line then new th ds h else .no
  | .dic ks vs, ρ, h => match ks with
    | .nil => newD [] h
    | _ => (evs cal ks ρ h).bind fun kd h => (evs cal vs ρ h).bind fun vd h => match putAll h (kd.zip vd) [] with
      | some l => newD l h
      | none => .no
def evs (cal : Cal) : Es → Env → Hpp → R (List D)
  | .nil, _, h => .ok [] h
  | .cons e es, ρ, h => (ev cal e ρ h).bind fun d h => (evs cal es ρ h).bind fun ds h => .ok (d :: ds) h
/-- a slice's part -/
def evo (cal : Cal) : Es → Env → Hpp → R (Option Int)
  | .nil, _, h => .ok none h
  | .cons e _, ρ, h => (ev cal e ρ h).bind fun d h => match d with
    | .int i => .ok (some i) h
    | _ => .no
/-- tests, all of them -/
def evc (cal : Cal) : Es → Env → Hpp → R Bool
  | .nil, _, h => .ok true h
  | .cons e es, ρ, h => (tru (ev cal e ρ h)).bind fun b h => match b with
    | true => evc cal es ρ h
    | false => .ok false h
def src (cal : Cal) : Itr → Env → Hpp → R Src
  | .of e, ρ, h => (ev cal e ρ h).bind fun d h => srcOf d h
  | .range1 a, ρ, h => (ev cal a ρ h).bind fun x h => match x with
    | .int i => srcRange 0 i h
    | _ => .no
  | .range2 a b, ρ, h => (ev cal a ρ h).bind fun x h => (ev cal b ρ h).bind fun y h => match x, y with
    | .int i, .int j => srcRange i j h
    | _, _ => .no
  | .range3 a b c, ρ, h => (ev cal a ρ h).bind fun x h => (ev cal b ρ h).bind fun y h => (ev cal c ρ h).bind fun z h => match x, y, z with
    | .int i, .int j, .int c => if c = -1 then srcDown i j h else .no
    | _, _, _ => .no
  | .enum e, ρ, h => (ev cal e ρ h).bind fun d h => match seqOf d h with
    | some xs => .ok ⟨enumL 0 xs, heldOf d h⟩ h
    | none => .no
  | .zip a b, ρ, h => (ev cal a ρ h).bind fun x h => (ev cal b ρ h).bind fun y h => match zipOf x y h with
    | some xs => .ok ⟨xs, heldOf x h ++ heldOf y h⟩ h
    | none => .no
end
mutual
def asg (cal : Cal) : Lv → D → Env → Hpp → O
  | .nil, _, _, _ => .no
  | .name i, d, ρ, h => .nx (ρ.set i (some d)) h
  | .tup ts, d, ρ, h => match d with
    | .tup xs => if xs.length = ts.len then asgs cal ts xs ρ h else .no
    | _ => .no
  | .cons _ _, _, _, _ => .no
  | .sub a b, d, ρ, h => match ev cal a ρ h with
    | .ok x h1 => match ev cal b ρ h1 with
      | .ok y h2 => match setItem x y d h2 with
        | some h3 => .nx ρ h3
        | none => .no
      | .er c h2 => .er c ρ h2
      | .no => .no
    | .er c h1 => .er c ρ h1
    | .no => .no
def asgs (cal : Cal) : Lv → List D → Env → Hpp → O
  | .nil, ds, ρ, h => match ds with
    | [] => .nx ρ h
    | _ :: _ => .no
  | .cons t ts, ds, ρ, h => match ds with
    | [] => .no
    | d :: r => match asg cal t d ρ h with
      | .nx ρ' h' => asgs cal ts r ρ' h'
      | o => o
  | .name _, _, _, _ => .no
  | .tup _, _, _, _ => .no
  | .sub _ _, _, _, _ => .no
end
def andThen (r : R D) (ρ : Env) (f : D → Hpp → O) : O := match r with
  | .ok d h => f d h
  | .er c h => .er c ρ h
  | .no => .no
@[simp] theorem andThen_ok (d : D) (h : Hpp) (ρ : Env) (f : D → Hpp → O) : andThen (.ok d h) ρ f = f d h := id rfl
@[simp] theorem andThen_er (c : Nat) (h : Hpp) (ρ : Env) (f : D → Hpp → O) : andThen (.er c h) ρ f = .er c ρ h := id rfl
@[simp] theorem andThen_no (ρ : Env) (f : D → Hpp → O) : andThen .no ρ f = .no := id rfl
def O.seq (o : O) (f : Env → Hpp → O) : O := match o with
  | .nx ρ h => f ρ h
  | o => o
@[simp] theorem O.seq_nx (ρ : Env) (h : Hpp) (f : Env → Hpp → O) : (O.nx ρ h).seq f = f ρ h := id rfl
@[simp] theorem O.seq_rt (d : D) (h : Hpp) (f : Env → Hpp → O) : (O.rt d h).seq f = .rt d h := id rfl
@[simp] theorem O.seq_bk (ρ : Env) (h : Hpp) (f : Env → Hpp → O) : (O.bk ρ h).seq f = .bk ρ h := id rfl
@[simp] theorem O.seq_ct (ρ : Env) (h : Hpp) (f : Env → Hpp → O) : (O.ct ρ h).seq f = .ct ρ h := id rfl
@[simp] theorem O.seq_er (c : Nat) (ρ : Env) (h : Hpp) (f : Env → Hpp → O) : (O.er c ρ h).seq f = .er c ρ h := id rfl
@[simp] theorem O.seq_no (f : Env → Hpp → O) : (O.no).seq f = .no := id rfl
mutual
def ex (cal : Cal) : S → Env → Hpp → O
  | .exp e, ρ, h => andThen (ev cal e ρ h) ρ fun _ h => .nx ρ h
  | .asg t e, ρ, h => andThen (ev cal e ρ h) ρ fun d h => asg cal t d ρ h
  | .aug i op e, ρ, h => match ρ[i]? with
    | some (some x) => andThen (ev cal e ρ h) ρ fun y h => match x, y with
      | .int _, .int _ => andThen (bop op false x y h) ρ fun z h => .nx (ρ.set i (some z)) h
      | _, _ => .no
    | _ => .no
  | .augs a b op e, ρ, h => andThen (ev cal a ρ h) ρ fun x h => andThen (ev cal b ρ h) ρ fun i h => match item x i h with
    | none => .no
    | some y => andThen (ev cal e ρ h) ρ fun z h => match y, z with
      | .int _, .int _ => andThen (bop op false y z h) ρ fun w h => match setItem x i w h with
        | some h3 => .nx ρ h3
        | none => .no
      | _, _ => .no
  | .iff c a b, ρ, h => match tru (ev cal c ρ h) with
    | .ok true h1 => exs cal a ρ h1
    | .ok false h1 => exs cal b ρ h1
    | .er x h1 => .er x ρ h1
    | .no => .no
  | .whl c b, ρ, h => whileL (fun ρ h => tru (ev cal c ρ h)) (fun ρ h => exs cal b ρ h) ρ h
  | .for_ tg it b, ρ, h => match src cal it ρ h with
    | .ok s h1 => forL s.ok (fun ρ d => sto tg ρ d) (fun ρ h => exs cal b ρ h) s.items ρ h1
    | .er x h1 => .er x ρ h1
    | .no => .no
  | .ret e, ρ, h => andThen (ev cal e ρ h) ρ fun d h => .rt d h
  | .retn, _, h => .rt .non h
  | .raise c, ρ, h => .er c ρ h
  | .tr b hs, ρ, h => match exs cal b ρ h with
    | .er c ρ' h' => exh cal hs c ρ' h'
    | o => o
  | .pass, ρ, h => .nx ρ h
  | .cont, ρ, h => .ct ρ h
  | .brk, ρ, h => .bk ρ h
def exs (cal : Cal) : Ss → Env → Hpp → O
  | .nil, ρ, h => .nx ρ h
  | .unk, _, _ => .no
  | .cons s ss, ρ, h => (ex cal s ρ h).seq fun ρ h => exs cal ss ρ h
def exh (cal : Cal) : Hs → Nat → Env → Hpp → O
  | .nil, c, ρ, h => .er c ρ h
  | .cons k d hs, c, ρ, h => if k = c then .rt d h else exh cal hs c ρ h
end
/-! ### defs -/
mutual
def pureD : D → Bool
  | .tup xs => pureL xs
  | .fl xs => pureL xs
  | .ref _ => false
  | _ => true
def pureL : List D → Bool
  | [] => true
  | x :: xs => pureD x && pureL xs
end
mutual
def below (n : Nat) : D → Bool
  | .tup xs => belowL n xs
  | .fl xs => belowL n xs
  | .ref k => decide (k < n)
  | _ => true
def belowL (n : Nat) : List D → Bool
  | [] => true
  | x :: xs => below n x && belowL n xs
end
/-- a def: parameters, slots, body; mode 0: pure, 1: leaves the cells as they are, 2: any -/
structure Fn where
  np : Nat
  nl : Nat
  body : Ss
  mode : Nat
def env0 (fn : Fn) (ds : List D) : Env := ds.map some ++ List.replicate (fn.nl - fn.np) none
mutual
/-- no list within -/
def noL : D → Bool
  | .tup xs => noLs xs
  | .fl _ => false
  | .ref _ => false
  | .sc _ => false
  | _ => true
def noLs : List D → Bool
  | [] => true
  | x :: xs => noL x && noLs xs
end
mutual
/-- lists in the cells from n on become values -/
def frz (n : Nat) (h : Hpp) : Nat → D → D
  | 0, d => d
  | k + 1, .tup xs => .tup (frzL n h k xs)
  | k + 1, .fl xs => .fl (frzL n h k xs)
  | k + 1, .ref j => if j < n then .ref j else match h[j]? with
    | some (.lst xs) => .fl (frzL n h k xs)
    | _ => .ref j
  | _, d => d
def frzL (n : Nat) (h : Hpp) : Nat → List D → List D
  | _, [] => []
  | k, x :: xs => frz n h k x :: frzL n h k xs
end
def fin0 (p : Bool) (h : Hpp) (o : O) : R D := match o with
  | .rt d h' => if (p && pureD (frz 0 h' 9 d)) || noL (frz 0 h' 9 d) then .ok (frz 0 h' 9 d) h else .no
  | .nx _ _ => .ok .non h
  | .er c _ _ => .er c h
  | _ => .no
def fin1 (h : Hpp) (o : O) : R D := match o with
  | .rt d h' => if h'.take h.length = h ∧ below h.length (frz h.length h' 9 d) = true then .ok (frz h.length h' 9 d) h else .no
  | .nx _ h' => if h'.take h.length = h then .ok .non h else .no
  | .er c _ h' => if h'.take h.length = h then .er c h else .no
  | _ => .no
def fin2 (o : O) : R D := match o with
  | .rt d h' => .ok d h'
  | .nx _ h' => .ok .non h'
  | .er c _ h' => .er c h'
  | _ => .no
def runFn (cal : Cal) (fn : Fn) (ds : List D) (h : Hpp) : R D :=
  if ds.length = fn.np then match fn.mode with
    | 0 => if pureL (ds.map fun d => res d h) then fin0 (pureL ds) h (exs cal fn.body (env0 fn (ds.map fun d => res d h)) []) else .no
    | 1 => fin1 h (exs cal fn.body (env0 fn ds) h)
    | _ => fin2 (exs cal fn.body (env0 fn ds) h)
  else .no
def callF (fns : List Fn) : Nat → Cal
  | 0 => fun _ _ _ => .no
  | k + 1 => fun f ds h => match fns[f]? with
    | some fn => runFn (callF fns k) fn ds h
    | none => .no
end PL
end
section
set_option Elab.async false
set_option linter.all false
set_option maxRecDepth 100000
set_option maxHeartbeats 1000000
/-! PLS: what the evaluator tells, the model does. -/
namespace PL
open PySem PySem.Spec PyProof.Rows L2
/-! ### values and what stands for them -/
def KL (K : PySem.W.Frag) (a : Addr) (xs : List V) : Prop :=
  ∃ (o : Obj) (its : Array Value) (n : Nat), K.lookup a = some o ∧ o.cls = .type "list" ∧ o.dict = none ∧ o.data = .seq its n ∧ its.size ≤ sizeLine ∧ Vals xs its.toList
/-- the written part, the defs' addresses -/
structure Ge where
  K : PySem.W.Frag
  fa : Nat → Addr
  nf : Nat
  nx : Nat
section
variable (G : Ge) (F : Addr → Prop) (ι : List Addr) (H : Hp)
mutual
def VR : D → V → Prop
  | .non, v => v = .non
  | .bl b, v => v = .bl b
  | .int i, v => v = .int i
  | .str s, v => v = .str s
  | .tup xs, v => ∃ a vs, v = .ref a ∧ SqT G.K H a vs ∧ VRs xs vs
  | .fl xs, v => ∃ a vs, v = .ref a ∧ (H a = some (.lst vs) ∧ a ∉ ι ∧ ¬ F a) ∧ VRs xs vs
  | .ref n, v => ∃ a, v = .ref a ∧ ι[n]? = some a
  | .fn f, v => v = .ref (G.fa f) ∧ f < G.nf
  | .sc is, v => ∃ a, v = .ref a ∧ (KL G.K a (is.map V.int) ∨ (Rd H a (.lst (is.map V.int)) ∧ a ∉ ι ∧ ¬ F a))
def VRs : List D → List V → Prop
  | [], vs => vs = []
  | x :: xs, vs => ∃ v r, vs = v :: r ∧ VR x v ∧ VRs xs r
end
/-- a cell and what is tracked -/
def CR (c : Cell) (a : Addr) : Prop := match c with
  | .lst xs => ∃ vs, H a = some (.lst vs) ∧ VRs G F ι H xs vs
  | .dic _ => False
  | .obj _ _ => False
structure Rel (h : Hpp) : Prop where
  len : ι.length = h.length
  nd : ι.Nodup
  cells : ∀ (n : Nat) (a : Addr) (c : Cell), ι[n]? = some a → h[n]? = some c → CR G F ι H c a
  own : ∀ a ∈ ι, ¬ F a
  frn : ∀ a, F a → ∃ o, H a = some o
end
/-- what changes: the cells alone; new cells are new -/
structure Grow (H : Hp) (ι : List Addr) (H' : Hp) (ι' : List Addr) : Prop where
  keep : ∀ a o, H a = some o → a ∉ ι → H' a = some o
  pre : ∃ m, ι' = ι ++ m
  new : ∀ a ∈ ι', a ∈ ι ∨ H a = none
/-- a cell is a thing that may be written -/
def Cells (H : Hp) (ι : List Addr) : Prop := ∀ a ∈ ι, ∃ o, H a = some o ∧ Mut (some o)
theorem Grow.refl {H : Hp} {ι : List Addr} : Grow H ι H ι := ⟨fun _ _ e _ => e, ⟨[], by simp⟩, fun _ h => .inl h⟩
theorem Grow.trans {H1 H2 H3 : Hp} {ι1 ι2 ι3 : List Addr} (a : Grow H1 ι1 H2 ι2) (b : Grow H2 ι2 H3 ι3) : Grow H1 ι1 H3 ι3 where
  keep := fun x o e n => b.keep x o (a.keep x o e n) fun z => by
    rcases a.new x z with q | q
    · exact n q
    · rw [e] at q; cases q
  pre := by
    obtain ⟨m, rfl⟩ := a.pre
    obtain ⟨m', rfl⟩ := b.pre
    exact ⟨m ++ m', by simp⟩
  new := fun x hx => by
    rcases b.new x hx with q | q
    · exact a.new x q
    · by_cases hi : x ∈ ι1
      · exact .inl hi
      · right
        cases e : H1 x with
        | none => rfl
        | some o =>
          have := a.keep x o e hi
          rw [q] at this; cases this
theorem Grow.at {H H' : Hp} {ι ι' : List Addr} (g : Grow H ι H' ι') {n : Nat} {a : Addr} (e : ι[n]? = some a) : ι'[n]? = some a := by
  obtain ⟨m, rfl⟩ := g.pre
  obtain ⟨h, _⟩ := List.getElem?_eq_some_iff.mp e
  rw [List.getElem?_append_left h]; exact e
theorem Grow.rd {H H' : Hp} {ι ι' : List Addr} (g : Grow H ι H' ι') {a : Addr} {u : HO} (n : a ∉ ι) (r : Rd H a u) : Rd H' a u := by
  rcases r with r | ⟨o, r⟩
  · exact .inl (g.keep a _ r n)
  · exact .inr ⟨o, g.keep a _ r n⟩
theorem Rd.some {H : Hp} {a : Addr} {u : HO} (r : Rd H a u) : ∃ o, H a = some o := by
  rcases r with r | ⟨o, r⟩
  · exact ⟨_, r⟩
  · exact ⟨_, r⟩
theorem Rd.tup_not {H : Hp} {ι : List Addr} {a : Addr} {vs : List V} (c : Cells H ι) (r : Rd H a (.tup vs)) : a ∉ ι := fun h => by
  obtain ⟨o, e, m⟩ := c a h
  rcases r with r | ⟨o', r⟩
  · rw [r] at e; cases e; exact m
  · rw [r] at e; cases e; exact m
theorem Grow.out {H H' : Hp} {ι ι' : List Addr} (g : Grow H ι H' ι') {a : Addr} (n : a ∉ ι) (s : ∃ o, H a = some o) : a ∉ ι' := fun h => by
  rcases g.new a h with q | q
  · exact n q
  · obtain ⟨o, e⟩ := s
    rw [e] at q; cases q
section
variable {G : Ge} {F F' : Addr → Prop} {ι ι' : List Addr} {H H' : Hp}
theorem SqT.grow (g : Grow H ι H' ι') (c : Cells H ι) {a : Addr} {vs : List V} (r : SqT G.K H a vs) : SqT G.K H' a vs := by
  rcases r with r | r
  · exact .inl (g.rd (Rd.tup_not c r) r)
  · exact .inr r
mutual
theorem VR.mono (g : Grow H ι H' ι') (c : Cells H ι) (f : ∀ a, F' a → F a ∨ H a = none) : ∀ {d : D} {v : V}, VR G F ι H d v → VR G F' ι' H' d v
  | .non, _, r => r
  | .bl _, _, r => r
  | .int _, _, r => r
  | .str _, _, r => r
  | .tup xs, v, r => by
    obtain ⟨a, vs, e, s, t⟩ := r
    exact ⟨a, vs, e, SqT.grow g c s, VRs.mono g c f t⟩
  | .fl xs, v, r => by
    obtain ⟨a, vs, e, ⟨s, n, nf⟩, t⟩ := r
    refine ⟨a, vs, e, ⟨g.keep a _ s n, g.out n ⟨_, s⟩, fun z => ?_⟩, VRs.mono g c f t⟩
    rcases f a z with q | q
    · exact nf q
    · rw [q] at s; cases s
  | .ref n, v, r => by
    obtain ⟨a, e, i⟩ := r
    exact ⟨a, e, g.at i⟩
  | .fn _, _, r => r
  | .sc is, v, r => by
    obtain ⟨a, e, s⟩ := r
    refine ⟨a, e, ?_⟩
    rcases s with s | ⟨s, n, nf⟩
    · exact .inl s
    · refine .inr ⟨g.rd n s, g.out n (Rd.some s), fun z => ?_⟩
      rcases f a z with q | q
      · exact nf q
      · obtain ⟨o, e'⟩ := Rd.some s
        rw [q] at e'; cases e'
theorem VRs.mono (g : Grow H ι H' ι') (c : Cells H ι) (f : ∀ a, F' a → F a ∨ H a = none) : ∀ {ds : List D} {vs : List V}, VRs G F ι H ds vs → VRs G F' ι' H' ds vs
  | [], _, r => r
  | x :: xs, vs, r => by
    obtain ⟨v, t, e, r1, r2⟩ := r
    exact ⟨v, t, e, VR.mono g c f r1, VRs.mono g c f r2⟩
end
theorem VR.up (g : Grow H ι H' ι') (c : Cells H ι) {d : D} {v : V} (r : VR G F ι H d v) : VR G F ι' H' d v := VR.mono g c (fun _ z => .inl z) r
theorem VRs.up (g : Grow H ι H' ι') (c : Cells H ι) {d : List D} {v : List V} (r : VRs G F ι H d v) : VRs G F ι' H' d v := VRs.mono g c (fun _ z => .inl z) r
theorem VRs.length : ∀ {ds : List D} {vs : List V}, VRs G F ι H ds vs → vs.length = ds.length
  | [], _, r => by cases r; rfl
  | x :: xs, _, r => by
    obtain ⟨v, t, rfl, _, r2⟩ := r
    simp [VRs.length r2]
theorem VRs.get : ∀ {ds : List D} {vs : List V} {i : Nat} {d : D}, VRs G F ι H ds vs → ds[i]? = some d → ∃ v, vs[i]? = some v ∧ VR G F ι H d v
  | [], _, _, _, _, e => by simp at e
  | x :: xs, _, 0, d, r, e => by
    obtain ⟨v, t, rfl, r1, _⟩ := r
    simp at e; subst e
    exact ⟨v, by simp, r1⟩
  | x :: xs, _, i + 1, d, r, e => by
    obtain ⟨v, t, rfl, _, r2⟩ := r
    obtain ⟨u, h1, h2⟩ := VRs.get (i := i) r2 (by simpa using e)
    exact ⟨u, by simpa using h1, h2⟩
theorem VRs.getV : ∀ {ds : List D} {vs : List V} {i : Nat} {v : V}, VRs G F ι H ds vs → vs[i]? = some v → ∃ d, ds[i]? = some d ∧ VR G F ι H d v
  | [], _, _, _, r, e => by cases r; simp at e
  | x :: xs, _, 0, d, r, e => by
    obtain ⟨v, t, rfl, r1, _⟩ := r
    simp at e; subst e
    exact ⟨x, by simp, r1⟩
  | x :: xs, _, i + 1, d, r, e => by
    obtain ⟨v, t, rfl, _, r2⟩ := r
    obtain ⟨u, h1, h2⟩ := VRs.getV (i := i) r2 (by simpa using e)
    exact ⟨u, by simpa using h1, h2⟩
theorem VRs.append : ∀ {ds es : List D} {vs us : List V}, VRs G F ι H ds vs → VRs G F ι H es us → VRs G F ι H (ds ++ es) (vs ++ us)
  | [], _, _, _, r, s => by cases r; exact s
  | x :: xs, es, _, us, r, s => by
    obtain ⟨v, t, rfl, r1, r2⟩ := r
    exact ⟨v, t ++ us, rfl, r1, VRs.append r2 s⟩
theorem VRs.one {d : D} {v : V} (r : VR G F ι H d v) : VRs G F ι H [d] [v] := ⟨v, [], rfl, r, rfl⟩
theorem VRs.two {d e : D} {v u : V} (r : VR G F ι H d v) (s : VR G F ι H e u) : VRs G F ι H [d, e] [v, u] := ⟨v, [u], rfl, r, u, [], rfl, s, rfl⟩
theorem VRs.take : ∀ {ds : List D} {vs : List V} (n : Nat), VRs G F ι H ds vs → VRs G F ι H (ds.take n) (vs.take n)
  | ds, vs, 0, _ => by
    rw [List.take_zero, List.take_zero]; exact rfl
  | [], _, n + 1, r => by cases r; exact rfl
  | x :: xs, _, n + 1, r => by
    obtain ⟨v, t, rfl, r1, r2⟩ := r
    exact ⟨v, t.take n, rfl, r1, VRs.take n r2⟩
theorem VRs.drop : ∀ {ds : List D} {vs : List V} (n : Nat), VRs G F ι H ds vs → VRs G F ι H (ds.drop n) (vs.drop n)
  | _, _, 0, r => r
  | [], _, n + 1, r => by cases r; exact rfl
  | x :: xs, _, n + 1, r => by
    obtain ⟨v, t, rfl, _, r2⟩ := r
    exact VRs.drop n r2
theorem VRs.set {d : D} {v : V} (r0 : VR G F ι H d v) : ∀ {ds : List D} {vs : List V} (n : Nat), VRs G F ι H ds vs → VRs G F ι H (ds.set n d) (vs.set n v)
  | [], _, _, r => by cases r; exact rfl
  | x :: xs, _, 0, r => by
    obtain ⟨u, t, rfl, _, r2⟩ := r
    exact ⟨v, t, rfl, r0, r2⟩
  | x :: xs, _, n + 1, r => by
    obtain ⟨u, t, rfl, r1, r2⟩ := r
    exact ⟨u, t.set n v, rfl, r1, VRs.set r0 n r2⟩
theorem VRs.eraseIdx : ∀ {ds : List D} {vs : List V} (n : Nat), VRs G F ι H ds vs → VRs G F ι H (ds.eraseIdx n) (vs.eraseIdx n)
  | [], _, _, r => by cases r; exact rfl
  | x :: xs, _, 0, r => by
    obtain ⟨u, t, rfl, _, r2⟩ := r
    exact r2
  | x :: xs, _, n + 1, r => by
    obtain ⟨u, t, rfl, r1, r2⟩ := r
    exact ⟨u, t.eraseIdx n, rfl, r1, VRs.eraseIdx n r2⟩
theorem VRs.reverse : ∀ {ds : List D} {vs : List V}, VRs G F ι H ds vs → VRs G F ι H ds.reverse vs.reverse
  | [], _, r => by cases r; exact rfl
  | x :: xs, _, r => by
    obtain ⟨u, t, rfl, r1, r2⟩ := r
    rw [List.reverse_cons, List.reverse_cons]
    exact VRs.append (VRs.reverse r2) (VRs.one r1)
theorem VRs.rep {ds : List D} {vs : List V} (r : VRs G F ι H ds vs) : ∀ n : Nat, VRs G F ι H (List.replicate n ds).flatten (List.replicate n vs).flatten
  | 0 => rfl
  | n + 1 => by
    rw [List.replicate_succ, List.replicate_succ, List.flatten_cons, List.flatten_cons]
    exact VRs.append r (VRs.rep r n)
theorem VRs.ints : ∀ {is : List Int}, VRs G F ι H (is.map D.int) (is.map V.int)
  | [] => rfl
  | i :: is => ⟨.int i, is.map V.int, rfl, rfl, VRs.ints⟩
theorem VRs.ints_of : ∀ {is : List Int} {vs : List V}, VRs G F ι H (is.map D.int) vs → vs = is.map V.int
  | [], vs, r => r
  | i :: is, vs, r => by
    obtain ⟨v, t, rfl, r1, r2⟩ := r
    have r1 : v = .int i := r1
    rw [r1, VRs.ints_of r2]; rfl
/-- the state's facts -/
theorem Rel.cellsOk {h : Hpp} (r : Rel G F ι H h) : Cells H ι := fun a ha => by
  obtain ⟨n, e⟩ := List.mem_iff_getElem?.mp ha
  have hn : n < h.length := by rw [← r.len]; exact (List.getElem?_eq_some_iff.mp e).1
  have c := r.cells n a h[n] e (List.getElem?_eq_getElem hn)
  cases hc : h[n] with
  | lst xs =>
    rw [hc] at c
    obtain ⟨vs, q, _⟩ := c
    exact ⟨_, q, trivial⟩
  | dic _ => rw [hc] at c; exact c.elim
  | obj _ _ => rw [hc] at c; exact c.elim
theorem CR.mono {c : Cell} {a : Addr} (g : Grow H ι H' ι') (cs : Cells H ι) (f : ∀ a, F' a → F a ∨ H a = none) (e : H' a = H a) (r : CR G F ι H c a) : CR G F' ι' H' c a := by
  cases c with
  | lst xs =>
    obtain ⟨vs, q, t⟩ := r
    exact ⟨vs, e.trans q, VRs.mono g cs f t⟩
  | dic _ => exact r
  | obj _ _ => exact r
/-- a new thing that is no cell -/
theorem Rel.upd {h : Hpp} {p : Addr} {o : HO} (r : Rel G F ι H h) (n : H p = none) : Rel G F ι (upd H p o) h ∧ Grow H ι (upd H p o) ι := by
  have np : ∀ a ∈ ι, a ≠ p := fun a ha e => by
    obtain ⟨o', q, _⟩ := r.cellsOk a ha
    rw [e, n] at q; cases q
  have g : Grow H ι (L2.upd H p o) ι := ⟨fun a o' e _ => by rw [upd_ne (ne_of_none e n)]; exact e, ⟨[], by simp⟩, fun _ h => .inl h⟩
  refine ⟨⟨r.len, r.nd, fun k a c e1 e2 => ?_, r.own, fun a fa => ?_⟩, g⟩
  · refine CR.mono g r.cellsOk (fun _ z => .inl z) ?_ (r.cells k a c e1 e2)
    rw [upd_ne (np a (List.mem_of_getElem? e1))]
  · obtain ⟨o', q⟩ := r.frn a fa
    exact ⟨o', by rw [upd_ne (ne_of_none q n)]; exact q⟩
/-- a new cell -/
theorem Rel.cell {h : Hpp} {p : Addr} {xs : List D} {vs : List V} (r : Rel G F ι H h) (n : H p = none) (nf : ¬ F p) (s : VRs G F ι H xs vs) :
    Rel G F (ι ++ [p]) (L2.upd H p (.lst vs)) (h ++ [.lst xs]) ∧ Grow H ι (L2.upd H p (.lst vs)) (ι ++ [p]) := by
  have np : ∀ a ∈ ι, a ≠ p := fun a ha e => by
    obtain ⟨o', q, _⟩ := r.cellsOk a ha
    rw [e, n] at q; cases q
  have g : Grow H ι (L2.upd H p (.lst vs)) (ι ++ [p]) := ⟨fun a o' e _ => by rw [upd_ne (ne_of_none e n)]; exact e, ⟨[p], rfl⟩, fun a h => by
    rcases List.mem_append.mp h with h | h
    · exact .inl h
    · have e : a = p := by simpa using h
      rw [e]; exact .inr n⟩
  refine ⟨⟨by simp [r.len], ?_, fun k a c e1 e2 => ?_, fun a ha => ?_, fun a fa => ?_⟩, g⟩
  · rw [List.nodup_append]
    refine ⟨r.nd, by simp, fun a ha b hb => ?_⟩
    have e : b = p := by simpa using hb
    rw [e]; exact np a ha
  · by_cases hk : k < ι.length
    · rw [List.getElem?_append_left hk] at e1
      rw [List.getElem?_append_left (by rw [← r.len]; exact hk)] at e2
      refine CR.mono g r.cellsOk (fun _ z => .inl z) ?_ (r.cells k a c e1 e2)
      rw [upd_ne (np a (List.mem_of_getElem? e1))]
    · rw [List.getElem?_append_right (by omega)] at e1
      rw [List.getElem?_append_right (by rw [← r.len]; omega)] at e2
      have k0 : k - ι.length = 0 := by
        have := (List.getElem?_eq_some_iff.mp e1).1
        simp at this; omega
      rw [k0] at e1
      rw [← r.len, k0] at e2
      simp at e1 e2
      subst e1 e2
      exact ⟨vs, upd_same, VRs.up g r.cellsOk s⟩
  · rcases List.mem_append.mp ha with ha | ha
    · exact r.own a ha
    · have e : a = p := by simpa using ha
      rw [e]; exact nf
  · obtain ⟨o', q⟩ := r.frn a fa
    exact ⟨o', by rw [upd_ne (ne_of_none q n)]; exact q⟩
theorem Rel.nof {h : Hpp} (r : Rel G F ι H h) {p : Addr} (n : H p = none) : ¬ F p := fun z => by
  obtain ⟨o, e⟩ := r.frn p z
  rw [n] at e; cases e
/-- a cell is written -/
theorem Rel.set {h : Hpp} {k : Nat} {p : Addr} {xs : List D} {vs : List V} (r : Rel G F ι H h) (hk : ι[k]? = some p) (s : VRs G F ι H xs vs) :
    Rel G F ι (L2.upd H p (.lst vs)) (h.set k (.lst xs)) ∧ Grow H ι (L2.upd H p (.lst vs)) ι := by
  have hp : p ∈ ι := List.mem_of_getElem? hk
  have g : Grow H ι (L2.upd H p (.lst vs)) ι := ⟨fun a o' e hn => by rw [upd_ne (fun z => hn (by rw [z]; exact hp))]; exact e, ⟨[], by simp⟩, fun _ h => .inl h⟩
  have hlt : k < h.length := by rw [← r.len]; exact (List.getElem?_eq_some_iff.mp hk).1
  refine ⟨⟨by simp [r.len], r.nd, fun j a c e1 e2 => ?_, r.own, fun a fa => ?_⟩, g⟩
  · by_cases hj : j = k
    · subst hj
      rw [hk] at e1; cases e1
      rw [List.getElem?_set_self hlt] at e2
      cases e2
      exact ⟨vs, upd_same, VRs.up g r.cellsOk s⟩
    · rw [List.getElem?_set_ne (Ne.symm hj)] at e2
      have ne : a ≠ p := fun z => hj (by
        obtain ⟨h1, q1⟩ := List.getElem?_eq_some_iff.mp e1
        obtain ⟨h2, q2⟩ := List.getElem?_eq_some_iff.mp hk
        exact (List.getElem_inj r.nd).mp (q1.trans (z.trans q2.symm)))
      refine CR.mono g r.cellsOk (fun _ z => .inl z) ?_ (r.cells j a c e1 e2)
      rw [upd_ne ne]
  · obtain ⟨o', q⟩ := r.frn a fa
    by_cases e : a = p
    · subst e; exact ⟨_, upd_same⟩
    · exact ⟨o', by rw [upd_ne e]; exact q⟩
/-- what a value's row is, told by the model -/
theorem VR.lst {h : Hpp} {d : D} {v : V} {xs : List D} (r : Rel G F ι H h) (s : VR G F ι H d v) (e : lstOf d h = some xs) : ∃ a vs, v = .ref a ∧ H a = some (.lst vs) ∧ VRs G F ι H xs vs := by
  cases d with
  | fl ys =>
    have e' : ys = xs := by simpa [lstOf] using e
    subst e'
    obtain ⟨a, vs, q, ⟨t, _⟩, u⟩ := s
    exact ⟨a, vs, q, t, u⟩
  | ref n =>
    obtain ⟨a, q, i⟩ := s
    cases hn : h[n]? with
    | none => simp [lstOf, hn] at e
    | some c =>
      cases c with
      | lst ys =>
        have e' : ys = xs := by simpa [lstOf, hn] using e
        subst e'
        obtain ⟨vs, t, u⟩ := r.cells n a _ i hn
        exact ⟨a, vs, q, t, u⟩
      | dic _ => simp [lstOf, hn] at e
      | obj _ _ => simp [lstOf, hn] at e
  | _ => simp [lstOf] at e
theorem VR.seq {h : Hpp} {d : D} {v : V} {xs : List D} (r : Rel G F ι H h) (s : VR G F ι H d v) (e : seqOf d h = some xs) : ∃ a vs, v = .ref a ∧ (SqL G.K H a vs ∨ SqT G.K H a vs) ∧ VRs G F ι H xs vs := by
  by_cases hl : lstOf d h = some xs
  · obtain ⟨a, vs, q, t, u⟩ := VR.lst r s hl
    exact ⟨a, vs, q, .inl (.inl (.inl t)), u⟩
  · cases d with
    | tup ys =>
      have e' : ys = xs := by simpa [seqOf] using e
      subst e'
      obtain ⟨a, vs, q, t, u⟩ := s
      exact ⟨a, vs, q, .inr t, u⟩
    | fl ys => exact absurd (by simpa [seqOf, lstOf] using e) hl
    | ref n => exact absurd (by simpa [seqOf, lstOf] using e) hl
    | sc is =>
      have e' : is.map D.int = xs := by simpa [seqOf] using e
      subst e'
      obtain ⟨a, q, t⟩ := s
      refine ⟨a, _, q, .inl ?_, VRs.ints⟩
      rcases t with t | ⟨t, _⟩
      · exact .inr t
      · exact .inl t
    | _ => simp [seqOf] at e
end
/-! ### outcomes -/
def Post {α : Type} (r : R α) (O : α → Hpp → Prop) (E : Nat → Hpp → Prop) : Prop := match r with
  | .ok a h => O a h
  | .er c h => E c h
  | .no => False
theorem Post.bind {α β : Type} {r : R α} {f : α → Hpp → R β} {O : β → Hpp → Prop} {E : Nat → Hpp → Prop} (p : Post (r.bind f) O E) : Post r (fun a h => Post (f a h) O E) E := by
  cases r with
  | ok a h => exact p
  | er c h => exact p
  | no => exact p
theorem Post.imp {α : Type} {r : R α} {O O' : α → Hpp → Prop} {E E' : Nat → Hpp → Prop} (p : Post r O E) (h : ∀ a h, O a h → O' a h) (e : ∀ c h, E c h → E' c h) : Post r O' E' := by
  cases r with
  | ok a _ => exact h _ _ p
  | er c _ => exact e _ _ p
  | no => exact p
theorem Post.opt {α : Type} {o : Option α} {h : Hpp} {O : α → Hpp → Prop} {E : Nat → Hpp → Prop} (p : Post (opt o h) O E) : ∃ a, o = some a ∧ O a h := by
  cases o with
  | none => exact p.elim
  | some a => exact ⟨a, rfl, p⟩
/-- what is wanted behind an expression, from the state (H, ι) on -/
def okp (G : Ge) (F : Addr → Prop) (ι : List Addr) (H : Hp) (Q : VK) : D → Hpp → Prop := fun d h' => ∀ v H' ι', Grow H ι H' ι' → Rel G F ι' H' h' → VR G F ι' H' d v → Q v H'
def okg {α : Type} (G : Ge) (F : Addr → Prop) (ι : List Addr) (H : Hp) (Q : α → Hp → List Addr → Prop) : α → Hpp → Prop := fun d h' => ∀ H' ι', Grow H ι H' ι' → Rel G F ι' H' h' → Q d H' ι'
theorem okp.from {G : Ge} {F : Addr → Prop} {ι ι1 : List Addr} {H H1 : Hp} {Q : VK} {d : D} {h' : Hpp} (g : Grow H ι H1 ι1) (p : okp G F ι H Q d h') : okp G F ι1 H1 Q d h' := fun v H' ι' g' r' s' => p v H' ι' (g.trans g') r' s'
/-! ### the judgements with the widest reading -/
def SE (X : Cx) (e : Expr) : TE := fun σ H Q => ∀ pins s, Inv X pins σ H s → wpAny (model X.prog X.w) X.A (eval e X.env) (EP X pins σ Q) X.xe s
def STt (X : Cx) (e : Expr) : TT := fun σ H Q => ∀ pins s, Inv X pins σ H s → wpAny (model X.prog X.w) X.A (isTrue e X.env (eval e X.env)) (TP X pins σ Q) X.xe s
def SA (X : Cx) (es : List Expr) : TA := fun σ H Q => ∀ pos pins s, Inv X pins σ H s → wpAny (model X.prog X.w) X.A (spliced (backTo pos (starEach es X.env))) (AP X pins σ Q) X.xe s
def SI (X : Cx) (tg it : Expr) : TI := fun σ H R => ∀ pins s, Inv X pins σ H s → wpAny (model X.prog X.w) X.A (eval it X.env) (fun v s1 => wpAny (model X.prog X.w) X.A (pyIter v) (PIE X pins σ tg R) X.xe s1) X.xe s
def SSt (X : Cx) (st : Stmt) : TS := fun D σ H => ∀ pins s, Inv X pins σ H s → wpAny (model X.prog X.w) X.A (exec st X.env) (SP X pins D) X.xe s
def SSs (X : Cx) (st : List Stmt) : TS := fun D σ H => ∀ pins s, Inv X pins σ H s → wpAny (model X.prog X.w) X.A (execs st X.env) (SP X pins D) X.xe s
theorem pSE (X : Cx) (e : Expr) : PE X e (SE X e) := ⟨fun pins s _ _ _ I h => h pins s I⟩
theorem pST (X : Cx) (e : Expr) : PT X e (STt X e) := ⟨fun pins s _ _ _ I h => h pins s I⟩
theorem pSA (X : Cx) (es : List Expr) : PA X es (SA X es) := ⟨fun pos pins s _ _ _ I h => h pos pins s I⟩
theorem pSI (X : Cx) (tg it : Expr) : PI X tg it (SI X tg it) := ⟨fun pins s _ _ _ I h => h pins s I⟩
theorem pSS (X : Cx) (st : Stmt) : PS X st (SSt X st) := ⟨fun pins s _ _ _ I h => h pins s I⟩
theorem pSSs (X : Cx) (st : List Stmt) : PSs X st (SSs X st) := ⟨fun pins s _ _ _ I h => h pins s I⟩
theorem SE.of {X : Cx} {e : Expr} {t : TE} {σ : L2.St} {H : Hp} {Q : VK} (p : PE X e t) (h : t σ H Q) : SE X e σ H Q := fun pins s I => p.run pins s σ H Q I h
theorem STt.of {X : Cx} {e : Expr} {t : TT} {σ : L2.St} {H : Hp} {Q : Bool → Hp → Prop} (p : PT X e t) (h : t σ H Q) : STt X e σ H Q := fun pins s I => p.run pins s σ H Q I h
theorem SA.of {X : Cx} {e : List Expr} {t : TA} {σ : L2.St} {H : Hp} {Q : List V → Hp → Prop} (p : PA X e t) (h : t σ H Q) : SA X e σ H Q := fun pos pins s I => p.run pos pins s σ H Q I h
theorem SI.of {X : Cx} {tg e : Expr} {t : TI} {σ : L2.St} {H : Hp} {Q : It → Hp → Prop} (p : PI X tg e t) (h : t σ H Q) : SI X tg e σ H Q := fun pins s I => p.run pins s σ H Q I h
theorem SSt.of {X : Cx} {e : Stmt} {t : TS} {σ : L2.St} {H : Hp} {D : Ends} (p : PS X e t) (h : t D σ H) : SSt X e D σ H := fun pins s I => p.run pins s σ H D I h
theorem SSs.of {X : Cx} {e : List Stmt} {t : TS} {σ : L2.St} {H : Hp} {D : Ends} (p : PSs X e t) (h : t D σ H) : SSs X e D σ H := fun pins s I => p.run pins s σ H D I h
theorem SE.mono {X : Cx} {e : Expr} {σ : L2.St} {H : Hp} {Q Q' : VK} (h : SE X e σ H Q) (q : ∀ v H', Q v H' → Q' v H') : SE X e σ H Q' := fun pins s I =>
  wpAny_mono (h pins s I) (fun _ _ ⟨v, H', I', r, z⟩ => ⟨v, H', I', r, q v H' z⟩) fun _ _ z => z
end PL
end
section
set_option Elab.async false
set_option linter.all false
set_option maxRecDepth 100000
set_option maxHeartbeats 1000000
/-! PLS2: the operators' readings. -/
namespace PL
open PySem PySem.Spec PyProof.Rows L2
theorem line_eq : sizeLine = line := sizeLine_eq
section
variable {G : Ge} {F : Addr → Prop} {ι : List Addr} {H : Hp} {Q : VK} {E : Nat → Hpp → Prop} {h : Hpp}
theorem same_ok {d : D} {v : V} (r : Rel G F ι H h) (p : Post (R.ok d h) (okp G F ι H Q) E) (s : VR G F ι H d v) : Q v H := p v H ι Grow.refl r s
theorem new_ok {th : Bool} {xs : List D} {vs : List V} {p : Addr} (r : Rel G F ι H h) (s : VRs G F ι H xs vs) (P : Post (new th xs h) (okp G F ι H Q) E) (n : H p = none) : Q (.ref p) (L2.upd H p (.lst vs)) := by
  cases th with
  | true =>
    obtain ⟨r', g⟩ := r.cell n (r.nof n) s
    refine P (.ref p) _ (ι ++ [p]) g r' ⟨p, rfl, ?_⟩
    rw [List.getElem?_append_right (by rw [r.len]; exact Nat.le_refl _), r.len]
    simp
  | false =>
    obtain ⟨r', g⟩ := r.upd (o := .lst vs) n
    refine P (.ref p) _ ι g r' ⟨p, vs, rfl, ⟨upd_same, fun hp => ?_, r.nof n⟩, VRs.up g r.cellsOk s⟩
    obtain ⟨o, e, _⟩ := r.cellsOk p hp
    rw [n] at e; cases e
theorem tup_ok {xs : List D} {vs : List V} {p : Addr} (r : Rel G F ι H h) (s : VRs G F ι H xs vs) (P : Post (R.ok (D.tup xs) h) (okp G F ι H Q) E) (n : H p = none) : Q (.ref p) (L2.upd H p (.tup vs)) := by
  obtain ⟨r', g⟩ := r.upd (o := .tup vs) n
  exact P (.ref p) _ ι g r' ⟨p, vs, rfl, .inl (.inl upd_same), VRs.up g r.cellsOk s⟩
end
/-! ### data to be compared -/
mutual
def toPD : D → PyData
  | .non => .none
  | .bl b => .bool b
  | .int i => .int i
  | .str s => .str s
  | .tup xs => .tuple (toPDs xs)
  | .fl xs => .list (toPDs xs)
  | _ => .none
def toPDs : List D → List PyData
  | [] => []
  | x :: xs => toPD x :: toPDs xs
end
mutual
theorem fit_lay : ∀ (n : Nat) (d : D), fit n d = true → (toPD d).canLay0 = true ∧ (toPD d).depth ≤ n
  | n, .non, _ => by cases n <;> simp [toPD, PyData.canLay0, PyData.depth]
  | n, .bl _, _ => by cases n <;> simp [toPD, PyData.canLay0, PyData.depth]
  | n, .int _, _ => by cases n <;> simp [toPD, PyData.canLay0, PyData.depth]
  | n, .str s, h => by
    have h : PyData.strOk s = true := by cases n <;> simpa [fit] using h
    simp [toPD, PyData.canLay0, PyData.depth, h]
  | 0, .tup _, h => by simp [fit] at h
  | 0, .fl _, h => by simp [fit] at h
  | n + 1, .tup xs, h => by
    have q := fitL_lay n xs (by simpa [fit] using h)
    simp only [toPD, PyData.canLay0, PyData.depth]
    exact ⟨q.1, by omega⟩
  | n + 1, .fl xs, h => by
    have q := fitL_lay n xs (by simpa [fit] using h)
    simp only [toPD, PyData.canLay0, PyData.depth]
    exact ⟨q.1, by omega⟩
  | n, .ref _, h => by cases n <;> simp [fit] at h
  | n, .fn _, h => by cases n <;> simp [fit] at h
  | n, .sc _, h => by cases n <;> simp [fit] at h
theorem fitL_lay : ∀ (n : Nat) (ds : List D), fitL n ds = true → PyData.canLayAll0 (toPDs ds) = true ∧ PyData.depthAll (toPDs ds) ≤ n
  | n, [], _ => by simp [toPDs, PyData.canLayAll0, PyData.depthAll]
  | n, x :: xs, h => by
    rw [fitL, Bool.and_eq_true] at h
    have q1 := fit_lay n x h.1
    have q2 := fitL_lay n xs h.2
    simp only [toPDs, PyData.canLayAll0, PyData.depthAll, Bool.and_eq_true]
    exact ⟨⟨q1.1, q2.1⟩, by omega⟩
end
theorem fit_shaped {d : D} (h : fit 60 d = true) : SeqAt.shaped (toPD d) = true := by
  have q := fit_lay 60 d h
  show ((toPD d).canLay0 && decide ((toPD d).depth ≤ 64)) = true
  rw [Bool.and_eq_true]
  exact ⟨q.1, decide_eq_true (by omega)⟩
mutual
theorem deq_eqv : ∀ (n m : Nat) (d e : D), fit n d = true → fit m e = true → deq d e = PyData.eqv (toPD d) (toPD e)
  | n, m, .tup xs, .tup ys, h1, h2 => by
    cases n with
    | zero => simp [fit] at h1
    | succ n => cases m with
      | zero => simp [fit] at h2
      | succ m =>
        simp only [deq, toPD, PyData.eqv]
        exact deqL_eqv n m xs ys (by simpa [fit] using h1) (by simpa [fit] using h2)
  | n, m, .fl xs, .fl ys, h1, h2 => by
    cases n with
    | zero => simp [fit] at h1
    | succ n => cases m with
      | zero => simp [fit] at h2
      | succ m =>
        simp only [deq, toPD, PyData.eqv]
        exact deqL_eqv n m xs ys (by simpa [fit] using h1) (by simpa [fit] using h2)
  | n, _, .ref _, _, h1, _ => by cases n <;> simp [fit] at h1
  | n, _, .fn _, _, h1, _ => by cases n <;> simp [fit] at h1
  | n, _, .sc _, _, h1, _ => by cases n <;> simp [fit] at h1
  | _, m, _, .ref _, _, h1 => by cases m <;> simp [fit] at h1
  | _, m, _, .fn _, _, h1 => by cases m <;> simp [fit] at h1
  | _, m, _, .sc _, _, h1 => by cases m <;> simp [fit] at h1
  | _, _, .non, .non, _, _ => by simp [deq, toPD, PyData.eqv]
  | _, _, .non, .bl _, _, _ => by simp [deq, toPD, PyData.eqv]
  | _, _, .non, .int _, _, _ => by simp [deq, toPD, PyData.eqv]
  | _, _, .non, .str _, _, _ => by simp [deq, toPD, PyData.eqv]
  | _, _, .non, .tup _, _, _ => by simp [deq, toPD, PyData.eqv]
  | _, _, .non, .fl _, _, _ => by simp [deq, toPD, PyData.eqv]
  | _, _, .bl _, .non, _, _ => by simp [deq, toPD, PyData.eqv]
  | _, _, .bl _, .bl _, _, _ => by simp [deq, toPD, PyData.eqv]
  | _, _, .bl _, .int _, _, _ => by simp [deq, toPD, PyData.eqv]
  | _, _, .bl _, .str _, _, _ => by simp [deq, toPD, PyData.eqv]
  | _, _, .bl _, .tup _, _, _ => by simp [deq, toPD, PyData.eqv]
  | _, _, .bl _, .fl _, _, _ => by simp [deq, toPD, PyData.eqv]
  | _, _, .int _, .non, _, _ => by simp [deq, toPD, PyData.eqv]
  | _, _, .int _, .bl _, _, _ => by simp [deq, toPD, PyData.eqv]
  | _, _, .int _, .int _, _, _ => by simp [deq, toPD, PyData.eqv]
  | _, _, .int _, .str _, _, _ => by simp [deq, toPD, PyData.eqv]
  | _, _, .int _, .tup _, _, _ => by simp [deq, toPD, PyData.eqv]
  | _, _, .int _, .fl _, _, _ => by simp [deq, toPD, PyData.eqv]
  | _, _, .str _, .non, _, _ => by simp [deq, toPD, PyData.eqv]
  | _, _, .str _, .bl _, _, _ => by simp [deq, toPD, PyData.eqv]
  | _, _, .str _, .int _, _, _ => by simp [deq, toPD, PyData.eqv]
  | _, _, .str _, .str _, _, _ => by simp [deq, toPD, PyData.eqv]
  | _, _, .str _, .tup _, _, _ => by simp [deq, toPD, PyData.eqv]
  | _, _, .str _, .fl _, _, _ => by simp [deq, toPD, PyData.eqv]
  | _, _, .tup _, .non, _, _ => by simp [deq, toPD, PyData.eqv]
  | _, _, .tup _, .bl _, _, _ => by simp [deq, toPD, PyData.eqv]
  | _, _, .tup _, .int _, _, _ => by simp [deq, toPD, PyData.eqv]
  | _, _, .tup _, .str _, _, _ => by simp [deq, toPD, PyData.eqv]
  | _, _, .tup _, .fl _, _, _ => by simp [deq, toPD, PyData.eqv]
  | _, _, .fl _, .non, _, _ => by simp [deq, toPD, PyData.eqv]
  | _, _, .fl _, .bl _, _, _ => by simp [deq, toPD, PyData.eqv]
  | _, _, .fl _, .int _, _, _ => by simp [deq, toPD, PyData.eqv]
  | _, _, .fl _, .str _, _, _ => by simp [deq, toPD, PyData.eqv]
  | _, _, .fl _, .tup _, _, _ => by simp [deq, toPD, PyData.eqv]
theorem deqL_eqv : ∀ (n m : Nat) (d e : List D), fitL n d = true → fitL m e = true → deqL d e = PyData.eqvAll (toPDs d) (toPDs e)
  | _, _, [], [], _, _ => rfl
  | _, _, [], _ :: _, _, _ => rfl
  | _, _, _ :: _, [], _, _ => rfl
  | n, m, x :: xs, y :: ys, h1, h2 => by
    rw [fitL, Bool.and_eq_true] at h1 h2
    simp only [deqL, toPDs, PyData.eqvAll]
    rw [deq_eqv n m x y h1.1 h2.1, deqL_eqv n m xs ys h1.2 h2.2]
end
section
variable {G : Ge} {F : Addr → Prop} {ι : List Addr} {H : Hp} {h : Hpp}
mutual
theorem dp_of : ∀ (n : Nat) (d : D) (v : V), fit n d = true → VR G F ι H d v → Dp G.K H v (toPD d)
  | _, .non, _, _, s => by cases (show _ = V.non from s); exact .non
  | _, .bl b, _, _, s => by cases (show _ = V.bl b from s); exact .bl b
  | _, .int i, _, _, s => by cases (show _ = V.int i from s); exact .int i
  | _, .str x, _, _, s => by cases (show _ = V.str x from s); exact .str x
  | 0, .tup _, _, h, _ => by simp [fit] at h
  | 0, .fl _, _, h, _ => by simp [fit] at h
  | n + 1, .tup xs, _, h, s => by
    obtain ⟨a, vs, rfl, t, u⟩ := s
    exact .tup t (dpL_of n xs vs (by simpa [fit] using h) u)
  | n + 1, .fl xs, _, h, s => by
    obtain ⟨a, vs, rfl, ⟨t, _⟩, u⟩ := s
    exact .lst (SqL.of t) (dpL_of n xs vs (by simpa [fit] using h) u)
  | n, .ref _, _, h, _ => by cases n <;> simp [fit] at h
  | n, .fn _, _, h, _ => by cases n <;> simp [fit] at h
  | n, .sc _, _, h, _ => by cases n <;> simp [fit] at h
theorem dpL_of : ∀ (n : Nat) (ds : List D) (vs : List V), fitL n ds = true → VRs G F ι H ds vs → DpAll G.K H vs (toPDs ds)
  | _, [], _, _, s => by cases s; exact .nil
  | n, x :: xs, _, h, s => by
    rw [fitL, Bool.and_eq_true] at h
    obtain ⟨v, t, rfl, s1, s2⟩ := s
    exact .cons (dp_of n x v h.1 s1) (dpL_of n xs t h.2 s2)
end
theorem dp_res {d : D} {v : V} (r : Rel G F ι H h) (f : fit 60 (res d h) = true) (s : VR G F ι H d v) : Dp G.K H v (toPD (res d h)) := by
  cases d with
  | ref n =>
    obtain ⟨a, rfl, i⟩ := s
    cases e : h[n]? with
    | none => simp [res, e, fit] at f
    | some c =>
      have cr := r.cells n a c i e
      cases c with
      | lst xs =>
        obtain ⟨vs, t, u⟩ := cr
        simp only [res, e] at f ⊢
        exact .lst (SqL.of t) (dpL_of 59 xs vs (by simpa [fit] using f) u)
      | dic _ => exact cr.elim
      | obj _ _ => exact cr.elim
  | non => exact dp_of 60 _ _ f s
  | bl _ => exact dp_of 60 _ _ f s
  | int _ => exact dp_of 60 _ _ f s
  | str _ => exact dp_of 60 _ _ f s
  | tup _ => exact dp_of 60 _ _ f s
  | fl _ => exact dp_of 60 _ _ f s
  | fn _ => exact dp_of 60 _ _ f s
  | sc _ => exact dp_of 60 _ _ f s
theorem pyEq_dp {d e : D} {v u : V} {k : Bool} (r : Rel G F ι H h) (s : VR G F ι H d v) (t : VR G F ι H e u) (q : pyEq d e h = some k) :
    ∃ p1 p2, Dp G.K H v p1 ∧ Dp G.K H u p2 ∧ SeqAt.shaped p1 = true ∧ SeqAt.shaped p2 = true ∧ k = PyData.eqv p1 p2 := by
  unfold pyEq at q
  by_cases c : (fit 60 (res d h) && fit 60 (res e h)) = true
  · rw [if_pos c] at q
    rw [Bool.and_eq_true] at c
    cases q
    exact ⟨_, _, dp_res r c.1 s, dp_res r c.2 t, fit_shaped c.1, fit_shaped c.2, deq_eqv 60 60 _ _ c.1 c.2⟩
  · rw [if_neg c] at q; cases q
end
end PL
end
section
set_option Elab.async false
set_option linter.all false
set_option maxRecDepth 100000
set_option maxHeartbeats 1000000
/-! PLS3: the operators' readings, by values. -/
namespace PL
open PySem PySem.Spec PyProof.Rows L2
set_option maxHeartbeats 4000000 in
theorem tuple_mul1 (l : Addr) (items : Array Value) (n : Nat) (dd : Option Addr) (sl : Array (Option Value)) (u : Tok) :
    Meets (Builtin.«tuple.__mul__» ⟨[.ref l, .int 1 u], []⟩) (fun _ R s => s.heap.get? l = some { cls := .type "tuple", dict := dd, data := .seq items n, slots := sl } ∧
      R (.ok (.ret (Value.ref l))) s) :=
  .of_wp fun prog w A R s h => by
    obtain ⟨hp, g, d, tk, os⟩ := s
    obtain ⟨hl, h⟩ := h
    have f1 := AutoSeq1.idx_int
    have c0 : (decide ((1 : Int) < -(2 ^ 63)) || decide ((1 : Int) ≥ 2 ^ 63)) = false := by decide
    have c1 : (items.isEmpty || (1 : Int) == 1) = true := by simp
    wp_walk using wpAny_loadPart' hl
    repeat (first
      | (refine wpAny_ite_false (decide_eq_false (by rw [c0]; exact Bool.false_ne_true)) ?_; wp_walk using wpAny_loadPart' hl)
      | (refine wpAny_ite_true (decide_eq_true (by rw [c1])) ?_; wp_walk using wpAny_loadPart' hl))
    exact ⟨_, rfl, h⟩
set_option maxHeartbeats 4000000 in
theorem tuple_mul0 (l : Addr) (items : Array Value) (n : Nat) (dd : Option Addr) (sl : Array (Option Value)) (x : Int) (u : Tok) (c0 : (decide (x < -(2 ^ 63)) || decide (x ≥ 2 ^ 63)) = false) (c1 : (items.isEmpty || x == 1) = false) (c2 : (decide (x ≤ 0) || items.isEmpty) = true) :
    Meets (Builtin.«tuple.__mul__» ⟨[.ref l, .int x u], []⟩) (fun _ R s => s.heap.get? l = some { cls := .type "tuple", dict := dd, data := .seq items n, slots := sl } ∧
      R (.ok (.ret (Value.ref s.heap.objs.size))) { s with heap := s.heap.push { cls := Value.type "tuple", data := Data.seq #[] }, toks := s.toks }) :=
  .of_wp fun prog w A R s h => by
    obtain ⟨hp, g, d, tk, os⟩ := s
    obtain ⟨hl, h⟩ := h
    have f1 := AutoSeq1.idx_int
    wp_walk using wpAny_loadPart' hl
    repeat (first
      | (refine wpAny_ite_false (decide_eq_false (by rw [c0]; exact Bool.false_ne_true)) ?_; wp_walk using wpAny_loadPart' hl)
      | (refine wpAny_ite_false (decide_eq_false (by rw [c1]; exact Bool.false_ne_true)) ?_; wp_walk using wpAny_loadPart' hl)
      | (refine wpAny_ite_true (decide_eq_true (by rw [c2])) ?_; wp_walk using wpAny_loadPart' hl))
    exact ⟨_, rfl, h⟩
def pyOp : Bop → Operator
  | .add => .Add
  | .sub => .Sub
  | .mul => .Mult
  | .fdiv => .FloorDiv
  | .mod => .Mod
def rBop (G : Ge) (op : Bop) (th : Bool) : R2 := fun x y H Q => ∃ F ι h a b E, Rel G F ι H h ∧ VR G F ι H a x ∧ VR G F ι H b y ∧ Post (bop op th a b h) (okp G F ι H Q) E
theorem mulOk_ok {a b : Int} (h : mulOk a b = true) : IntMulOk a b := by
  unfold mulOk at h
  rw [Bool.or_eq_true, Bool.or_eq_true] at h
  rcases h with (h | h) | h
  · have h := of_decide_eq_true h
    exact .of_left (intBits_le_64 (by omega) (by omega))
  · have h := of_decide_eq_true h
    exact .of_right (intBits_le_64 (by omega) (by omega))
  · have h := of_decide_eq_true h
    have hb : ∀ x : Int, Builtin.Int.intBits x ≤ x.natAbs.log2 + 1 := fun x => by
      unfold Builtin.Int.intBits
      split <;> omega
    unfold IntMulOk
    have : Builtin.Int.intTooBig (Builtin.Int.intBits a + Builtin.Int.intBits b) = false := by
      unfold Builtin.Int.intTooBig bitsLine
      have h1 := hb a
      have h2 := hb b
      exact decide_eq_false (by omega)
    rw [this]; simp
section
variable {X : Cx}
theorem op_mulW : OpR X (binaryOp .Mult) (rI IntMulOk fun i j => .int (i * j)) := opI fun _ _ _ _ _ _ _ hc q => mul_int q hc
theorem op_fdivW : OpR X (binaryOp .FloorDiv) (rI (fun _ j => j ≠ 0 ∧ j.natAbs.log2 < 9000) fun i j => .int (i.fdiv j)) := opI fun _ _ _ _ _ _ _ hc q => floordiv_int hc.1 q (.inl (PyProof.noPylong_of_log2 hc.2))
theorem iop_mulW : OpR X (inplaceOp .Mult) (rI IntMulOk fun i j => .int (i * j)) := opI fun _ _ _ _ _ _ _ hc q => imul_int q hc
theorem iop_fdivW : OpR X (inplaceOp .FloorDiv) (rI (fun _ j => j ≠ 0 ∧ j.natAbs.log2 < 9000) fun i j => .int (i.fdiv j)) := opI fun _ _ _ _ _ _ _ hc q => ifloordiv_int hc.1 q (.inl (PyProof.noPylong_of_log2 hc.2))
theorem iop_modW : OpR X (inplaceOp .Mod) (rI (fun _ j => j ≠ 0) fun i j => .int (i.fmod j)) := opI fun _ _ _ _ _ _ _ hc q => imod_int hc q
theorem flat_nil {α : Type} {n : Nat} {xs : List α} (h : xs = []) : (List.replicate n xs).flatten = [] := by
  subst h
  induction n with
  | zero => rfl
  | succ n ih => rw [List.replicate_succ, List.flatten_cons, ih]; rfl
theorem lst_cat {th : Bool} {F : Addr → Prop} {ι : List Addr} {H : Hp} {h : Hpp} {G : Ge} {a b : D} {x y : V} {Q : VK} {E : Nat → Hpp → Prop} (r : Rel G F ι H h) (ra : VR G F ι H a x) (rb : VR G F ι H b y) (P : Post (bopL .add th a b h) (okp G F ι H Q) E) : rCat x y H Q := by
  unfold bopL at P
  simp only at P
  cases e1 : lstOf a h with
  | none => rw [e1] at P; exact P.elim
  | some xs => cases e2 : lstOf b h with
    | none => rw [e1, e2] at P; exact P.elim
    | some ys =>
      rw [e1, e2] at P
      simp only at P
      by_cases c : xs.length + ys.length ≤ line
      · rw [if_pos c] at P
        obtain ⟨p, vs, rfl, h1, s1⟩ := VR.lst r ra e1
        obtain ⟨q, us, rfl, h2, s2⟩ := VR.lst r rb e2
        exact ⟨p, q, vs, us, rfl, rfl, h1, h2, by rw [VRs.length s1, VRs.length s2, line_eq]; exact c, fun z n => new_ok r (s1.append s2) P n⟩
      · rw [if_neg c] at P; exact P.elim
theorem lst_rep {th : Bool} {F : Addr → Prop} {ι : List Addr} {H : Hp} {h : Hpp} {G : Ge} {a b : D} {x y : V} {Q : VK} {E : Nat → Hpp → Prop} (r : Rel G F ι H h) (ra : VR G F ι H a x) (rb : VR G F ι H b y) (P : Post (bopL .mul th a b h) (okp G F ι H Q) E) : rRep x y H Q := by
  unfold bopL at P
  simp only at P
  cases e1 : lstOf a h with
  | none => rw [e1] at P; exact P.elim
  | some xs => cases b with
    | int k =>
      rw [e1] at P
      simp only at P
      by_cases c : -(2 ^ 63) ≤ k ∧ k < 2 ^ 63 ∧ xs.length * k.toNat ≤ line
      · rw [if_pos c] at P
        obtain ⟨p, vs, rfl, h1, s1⟩ := VR.lst r ra e1
        exact ⟨p, k, vs, rfl, rb, h1, c.1, c.2.1, by rw [VRs.length s1, line_eq]; exact c.2.2, fun z n => new_ok r (s1.rep _) P n⟩
      · rw [if_neg c] at P; exact P.elim
    | _ => rw [e1] at P; exact P.elim
/-- tuple * int, an item or more -/
def rRepTT (K : PySem.W.Frag) : R2 := fun x y H Q => ∃ l k xs, x = .ref l ∧ y = .int k ∧ SqT K H l xs ∧ xs ≠ [] ∧ -1000 ≤ k ∧ k ≤ 1000 ∧ xs.length ≤ 1000 ∧ (k = 1 → Q (.ref l) H) ∧ ∀ p, H p = none → Q (.ref p) (upd H p (.tup (List.replicate k.toNat xs).flatten))
theorem op_repTT : OpR X (binaryOp .Mult) (rRepTT X.K) := by
  intro pins s σ H x y v u Q I rx ry h
  obtain ⟨l, k, xs, e1, e2, hT, hne, h1, h2, hz, q1, q⟩ := h
  by_cases k2 : 2 ≤ k
  · exact op_repT pins s σ H x y v u Q I rx ry ⟨l, k, xs, e1, e2, hT, hne, k2, h2, hz, q⟩
  subst e1 e2
  cases rx
  obtain ⟨t, rfl⟩ := ry
  obtain ⟨its, r, ⟨⟨cls, dd, data, sl⟩, ho, hc, n, hd⟩, hs⟩ := I.tuple hT
  simp only at hc hd
  subst hc hd
  have hle : its.length = xs.length := r.length.symm
  have hn : its ≠ [] := fun e => hne (by
    rw [e] at hle
    exact List.eq_nil_of_length_eq_zero hle.symm)
  have hi : its.toArray.isEmpty = false := by
    cases its with
    | nil => exact absurd rfl hn
    | cons a b => rfl
  by_cases k1 : k = 1
  · subst k1
    exact wpAny_binaryOp_repeat_ref (T := "tuple") (U := "int") (by decide) ⟨_, ho, rfl⟩ (fun s' => typeIs_int s' 1 t) noFill_tuple_mul F.fills_int_mul F.slot_int_rmul repeat_tuple F.slot_int_index.lookup
      (call_meets F.slot_int_rmul (typeIs_int s 1 t) F.entry_int_rmul (F.args_int_rmul_2 _ _) (int_rmul_tuple 1 t l its.toArray n dd sl)
        ⟨ho, rfl, ⟨_, ho, rfl⟩, call_meets F.slot_tuple_mul ⟨_, ho, rfl⟩ F.entry_tuple_mul (F.args_tuple_mul_2 _ _) (tuple_mul1 l its.toArray n dd sl t) ⟨ho, .ref l, H, I, rfl, q1 rfl⟩⟩)
  · have c0 : (decide (k < -(2 ^ 63)) || decide (k ≥ 2 ^ 63)) = false := by
      rw [decide_eq_false (by omega), decide_eq_false (by omega)] <;> rfl
    have c1 : (its.toArray.isEmpty || k == 1) = false := by
      rw [hi, Bool.false_or]
      exact beq_eq_false_iff_ne.mpr (by omega)
    have c2 : (decide (k ≤ 0) || its.toArray.isEmpty) = true := by
      rw [decide_eq_true (by omega)]; rfl
    refine wpAny_binaryOp_repeat_ref (T := "tuple") (U := "int") (by decide) ⟨_, ho, rfl⟩ (fun s' => typeIs_int s' k t) noFill_tuple_mul F.fills_int_mul F.slot_int_rmul repeat_tuple F.slot_int_index.lookup
      (call_meets F.slot_int_rmul (typeIs_int s k t) F.entry_int_rmul (F.args_int_rmul_2 _ _) (int_rmul_tuple k t l its.toArray n dd sl)
        ⟨ho, rfl, ⟨_, ho, rfl⟩, call_meets F.slot_tuple_mul ⟨_, ho, rfl⟩ F.entry_tuple_mul (F.args_tuple_mul_2 _ _) (tuple_mul0 l its.toArray n dd sl k t c0 c1 c2) ⟨ho, ?_⟩⟩)
    have k0 : k.toNat = 0 := by omega
    have q' := q _ (I.hok.fresh (Nat.le_refl _))
    rw [k0] at q'
    refine ⟨.ref s.heap.objs.size, _, I.laid (t' := s.toks) (o := .tup []) (fun b ob q => Heap.get?_push_of_some _ q) (Nat.le_refl _) ?_, rfl, q'⟩
    exact ⟨Nat.zero_le _, [], .nil, IsTup.new _ _⟩
theorem op_bop (fa : Nat → Addr) (nf nx : Nat) (op : Bop) (th : Bool) : OpR X (binaryOp (pyOp op)) (rBop ⟨X.K, fa, nf, nx⟩ op th) := by
  intro pins s σ H x y v u Q I rx ry ⟨F, ι, h, a, b, E, r, ra, rb, P⟩
  unfold bop at P
  split at P
  · rename_i i j
    cases op with
    | add => exact op_add pins s σ H _ _ v u Q I rx ry ⟨i, j, ra, rb, same_ok r P rfl⟩
    | sub => exact op_sub pins s σ H _ _ v u Q I rx ry ⟨i, j, ra, rb, same_ok r P rfl⟩
    | mul =>
      simp only at P
      by_cases c : mulOk i j = true
      · rw [if_pos c] at P
        exact op_mulW pins s σ H _ _ v u Q I rx ry ⟨i, j, ra, rb, mulOk_ok c, same_ok r P rfl⟩
      · rw [if_neg c] at P; exact P.elim
    | fdiv =>
      simp only at P
      by_cases c : divOk j = true
      · rw [if_pos c] at P
        unfold divOk at c
        rw [Bool.and_eq_true] at c
        exact op_fdivW pins s σ H _ _ v u Q I rx ry ⟨i, j, ra, rb, ⟨of_decide_eq_true c.1, of_decide_eq_true c.2⟩, same_ok r P rfl⟩
      · rw [if_neg c] at P; exact P.elim
    | mod =>
      simp only at P
      by_cases c : j ≠ 0
      · rw [if_pos c] at P
        exact op_modN pins s σ H _ _ v u Q I rx ry ⟨i, j, ra, rb, c, same_ok r P rfl⟩
      · rw [if_neg c] at P; exact P.elim
  · rename_i xs ys
    cases op with
    | add =>
      simp only at P
      by_cases c : xs.length + ys.length ≤ line
      · rw [if_pos c] at P
        obtain ⟨p, vs, rfl, t1, s1⟩ := ra
        obtain ⟨q, us, rfl, t2, s2⟩ := rb
        refine op_catA pins s σ H _ _ v u Q I rx ry ⟨p, q, vs, us, rfl, rfl, t1, t2, by rw [VRs.length s1, VRs.length s2, line_eq]; exact c, fun e => ?_, fun _ e => ?_, fun _ _ z n => ?_⟩
        · subst e
          have l := VRs.length s1
          have l : xs = [] := List.eq_nil_of_length_eq_zero l.symm
          subst l
          exact same_ok r P ⟨q, us, rfl, t2, s2⟩
        · subst e
          have l := VRs.length s2
          have l : ys = [] := List.eq_nil_of_length_eq_zero l.symm
          subst l
          rw [List.append_nil] at P
          exact same_ok r P ⟨p, vs, rfl, t1, s1⟩
        · exact tup_ok r (s1.append s2) P n
      · rw [if_neg c] at P; exact P.elim
    | _ => exact P.elim
  · rename_i xs k
    cases op with
    | mul =>
      simp only at P
      by_cases c : -1000 ≤ k ∧ k ≤ 1000 ∧ xs.length ≤ 1000 ∧ xs.isEmpty = false
      · rw [if_pos c] at P
        obtain ⟨c1, c2, c3, c4⟩ := c
        obtain ⟨p, vs, rfl, t1, s1⟩ := ra
        have l := VRs.length s1
        refine op_repTT pins s σ H _ _ v u Q I rx ry ⟨p, k, vs, rfl, rb, t1, fun e => ?_, c1, c2, by rw [l]; exact c3, fun e => ?_, fun z n => tup_ok r (s1.rep _) P n⟩
        · rw [e] at l
          have l : xs = [] := List.eq_nil_of_length_eq_zero l.symm
          rw [l] at c4; cases c4
        · subst e
          have e1 : (List.replicate (1 : Int).toNat xs).flatten = xs := by simp
          rw [e1] at P
          exact same_ok (d := .tup xs) r P ⟨p, vs, rfl, t1, s1⟩
      · rw [if_neg c] at P; exact P.elim
    | _ => exact P.elim
  · rename_i i j
    cases op with
    | add =>
      simp only at P
      by_cases c : i.length + j.length ≤ line
      · rw [if_pos c] at P
        exact op_add_str pins s σ H _ _ v u Q I rx ry ⟨i, j, ra, rb, by rw [line_eq]; exact c, same_ok r P rfl⟩
      · rw [if_neg c] at P; exact P.elim
    | _ => exact P.elim
  · cases op with
    | add => exact op_cat pins s σ H _ _ v u Q I rx ry (lst_cat r ra rb P)
    | mul => exact op_rep pins s σ H _ _ v u Q I rx ry (lst_rep r ra rb P)
    | _ => exact P.elim
/-- a op= b of numbers, texts, tuples -/
def rIop (G : Ge) (op : Bop) : R2 := fun x y H Q => ∃ F ι h a b E, Rel G F ι H h ∧ VR G F ι H a x ∧ VR G F ι H b y ∧ (∃ i j, a = .int i ∧ b = .int j) ∧ Post (bop op false a b h) (okp G F ι H Q) E
theorem op_iop (fa : Nat → Addr) (nf nx : Nat) (op : Bop) : OpR X (inplaceOp (pyOp op)) (rIop ⟨X.K, fa, nf, nx⟩ op) := by
  intro pins s σ H x y v u Q I rx ry ⟨F, ι, h, a, b, E, r, ra, rb, ⟨i, j, ea, eb⟩, P⟩
  subst ea eb
  unfold bop at P
  simp only at P
  cases op with
  | add => exact iop_add pins s σ H _ _ v u Q I rx ry ⟨i, j, ra, rb, same_ok r P rfl⟩
  | sub => exact iop_sub pins s σ H _ _ v u Q I rx ry ⟨i, j, ra, rb, same_ok r P rfl⟩
  | mul =>
    simp only at P
    by_cases c : mulOk i j = true
    · rw [if_pos c] at P
      exact iop_mulW pins s σ H _ _ v u Q I rx ry ⟨i, j, ra, rb, mulOk_ok c, same_ok r P rfl⟩
    · rw [if_neg c] at P; exact P.elim
  | fdiv =>
    simp only at P
    by_cases c : divOk j = true
    · rw [if_pos c] at P
      unfold divOk at c
      rw [Bool.and_eq_true] at c
      exact iop_fdivW pins s σ H _ _ v u Q I rx ry ⟨i, j, ra, rb, ⟨of_decide_eq_true c.1, of_decide_eq_true c.2⟩, same_ok r P rfl⟩
    · rw [if_neg c] at P; exact P.elim
  | mod =>
    simp only at P
    by_cases c : j ≠ 0
    · rw [if_pos c] at P
      exact iop_modW pins s σ H _ _ v u Q I rx ry ⟨i, j, ra, rb, c, same_ok r P rfl⟩
    · rw [if_neg c] at P; exact P.elim
/-! ### comparisons -/
def pyCop : Cop → CmpOp
  | .eq => .Eq
  | .ne => .NotEq
  | .lt => .Lt
  | .le => .LtE
  | .gt => .Gt
  | .ge => .GtE
def rCop (G : Ge) (op : Cop) : R2 := fun x y H Q => ∃ F ι h a b k, Rel G F ι H h ∧ VR G F ι H a x ∧ VR G F ι H b y ∧ cop op a b h = some k ∧ Q (.bl k) H
theorem intsOf_eq : ∀ {xs : List D} {is : List Int}, intsOf xs = some is → xs = is.map D.int
  | [], is, h => by cases h; rfl
  | .int i :: r, is, h => by
    unfold intsOf at h
    cases e : intsOf r with
    | none => rw [e] at h; cases h
    | some js =>
      rw [e] at h; cases h
      rw [intsOf_eq e]; rfl
  | .non :: _, _, h => by cases h
  | .bl _ :: _, _, h => by cases h
  | .str _ :: _, _, h => by cases h
  | .tup _ :: _, _, h => by cases h
  | .fl _ :: _, _, h => by cases h
  | .ref _ :: _, _, h => by cases h
  | .fn _ :: _, _, h => by cases h
  | .sc _ :: _, _, h => by cases h
theorem lexLt_eq : ∀ (xs ys : List Int), lexLt xs ys = HT.lexLt xs ys
  | [], [] => rfl
  | [], _ :: _ => rfl
  | _ :: _, [] => rfl
  | x :: xs, y :: ys => by
    unfold lexLt
    rw [HT.lexLt_cons, lexLt_eq xs ys]
theorem op_cop (fa : Nat → Addr) (nf nx : Nat) (hu : X.A.units + 64 < cLine) (op : Cop) : OpR X (compareOp (pyCop op)) (rCop ⟨X.K, fa, nf, nx⟩ op) := by
  intro pins s σ H x y v u Q I rx ry ⟨F, ι, h, a, b, k, r, ra, rb, P, q⟩
  cases op with
  | eq =>
    obtain ⟨p1, p2, d1, d2, s1, s2, e⟩ := pyEq_dp r ra rb P
    exact op_eqD hu pins s σ H _ _ v u Q I rx ry ⟨p1, p2, d1, d2, s1, s2, by rw [← e]; exact q⟩
  | ne =>
    unfold cop at P
    simp only at P
    cases e : pyEq a b h with
    | none => rw [e] at P; cases P
    | some c =>
      rw [e] at P; cases P
      obtain ⟨p1, p2, d1, d2, s1, s2, e⟩ := pyEq_dp r ra rb e
      exact op_neD hu pins s σ H _ _ v u Q I rx ry ⟨p1, p2, d1, d2, s1, s2, by rw [← e]; exact q⟩
  | lt =>
    unfold cop at P
    simp only at P
    split at P
    · cases P
      exact op_lt pins s σ H _ _ v u Q I rx ry ⟨_, _, ra, rb, q⟩
    · split at P
      · rename_i e1 e2
        cases P
        rw [intsOf_eq e1] at ra
        rw [intsOf_eq e2] at rb
        obtain ⟨p, vs, rfl, t1, s1⟩ := ra
        obtain ⟨p', us, rfl, t2, s2⟩ := rb
        rw [VRs.ints_of s1] at t1
        rw [VRs.ints_of s2] at t2
        exact op_ltT (by omega) pins s σ H _ _ v u Q I rx ry ⟨p, p', _, _, rfl, rfl, t1, t2, by rw [← lexLt_eq]; exact q⟩
      · cases P
    · cases P
  | le =>
    unfold cop at P
    simp only at P
    split at P
    · cases P
      exact op_le pins s σ H _ _ v u Q I rx ry ⟨_, _, ra, rb, q⟩
    · cases P
  | gt =>
    unfold cop at P
    simp only at P
    split at P
    · cases P
      exact op_gt pins s σ H _ _ v u Q I rx ry ⟨_, _, ra, rb, q⟩
    · cases P
  | ge =>
    unfold cop at P
    simp only at P
    split at P
    · cases P
      exact op_ge pins s σ H _ _ v u Q I rx ry ⟨_, _, ra, rb, q⟩
    · cases P
/-! x in a list, in a tuple -/
def rInn (G : Ge) (ng : Bool) : R2 := fun x y H Q => ∃ F ι h a b k, Rel G F ι H h ∧ VR G F ι H a x ∧ VR G F ι H b y ∧ inD a b h = some k ∧ Q (.bl (k != ng)) H
theorem any_eqv {d : D} (fd : fit 60 d = true) : ∀ {ys : List D}, fitL 59 ys = true → ys.any (fun z => deq z d) = (toPDs ys).any fun z => PyData.eqv z (toPD d)
  | [], _ => by simp [toPDs]
  | y :: ys, f => by
    rw [fitL, Bool.and_eq_true] at f
    rw [toPDs, List.any_cons, List.any_cons, deq_eqv 59 60 y d f.1 fd, any_eqv fd f.2]
theorem op_inn (fa : Nat → Addr) (nf nx : Nat) (hu : X.A.units + 65 < cLine) (ng : Bool) : OpR X (compareOp (if ng then .NotIn else .In)) (rInn ⟨X.K, fa, nf, nx⟩ ng) := by
  intro pins s σ H x y v u Q I rx ry ⟨F, ι, h, a, b, k, r, ra, rb, P, q⟩
  unfold inD at P
  by_cases c : (fit 60 (res a h) && fit 60 (res b h)) = true
  · rw [if_pos c] at P
    rw [Bool.and_eq_true] at c
    have da := dp_res r c.1 ra
    have db := dp_res r c.2 rb
    have sa := fit_shaped c.1
    have sb := fit_shaped c.2
    have f2 := c.2
    split at P
    · rename_i ys e
      cases P
      rw [e, fit] at f2
      rw [e, toPD] at db sb
      rw [any_eqv c.1 f2] at q
      cases ng with
      | true => exact op_notInD hu pins s σ H _ _ v u Q I rx ry ⟨_, _, da, db, sa, sb, by rw [Bool.bne_true] at q; exact q⟩
      | false => exact op_inD hu pins s σ H _ _ v u Q I rx ry ⟨_, _, da, db, sa, sb, by rw [Bool.bne_false] at q; exact q⟩
    · rename_i ys e
      cases P
      rw [e, fit] at f2
      rw [e, toPD] at db sb
      rw [any_eqv c.1 f2] at q
      obtain ⟨as, r1⟩ := Dp.reads I _ x v da rx
      obtain ⟨bs, r2⟩ := Dp.reads I _ y u db ry
      have hl : PyData.canLayAll0 (toPDs ys) = true := by
        have := SeqAt.canLay_of_shaped sb
        rw [PyData.canLay0] at this
        exact this
      have hs : SeqAt.shaped (.list (toPDs ys)) = true := by
        have : fit 60 (.fl ys) = true := by rw [fit]; exact f2
        have := fit_shaped this
        rw [toPD] at this
        exact this
      cases ng with
      | true => exact SeqAt.notIn_tuple_reads r2 r1 hl (SeqAt.canLay_of_shaped sa) (room_in_shaped sa hu) ⟨.bl _, H, I, rfl, by rw [Bool.bne_true] at q; exact q⟩
      | false => exact SeqAt.in_tuple_reads r2 r1 hl (SeqAt.canLay_of_shaped sa) (room_in_shaped sa hu) ⟨.bl _, H, I, rfl, by rw [Bool.bne_false] at q; exact q⟩
    · cases P
  · rw [if_neg c] at P; cases P
/-- truth -/
theorem tru_of {G : Ge} {F : Addr → Prop} {ι : List Addr} {H : Hp} {h : Hpp} {d : D} {v : V} {k : Bool} (r : Rel G F ι H h) (s : VR G F ι H d v) (e : truthy d h = some k) : TruV G.K v H k := by
  have emp : ∀ {xs : List D} {vs : List V}, VRs G F ι H xs vs → (!xs.isEmpty) = !vs.isEmpty := fun {xs vs} t => by
    have l := VRs.length t
    cases xs <;> cases vs <;> simp at l ⊢
  unfold truthy at e
  split at e
  · cases e; cases (show _ = V.non from s); exact rfl
  · cases e; cases (show _ = V.bl _ from s); exact rfl
  · rename_i i
    cases e; cases (show _ = V.int i from s)
    show decide (i ≠ 0) = (i != 0)
    by_cases c : i = 0 <;> simp [c]
  · rename_i x
    split at e
    · rename_i c
      cases e; cases (show _ = V.str x from s)
      refine ⟨by rw [line_eq]; exact c, ?_⟩
      by_cases c : x.length = 0 <;> simp [c]
    · cases e
  · rename_i xs
    cases e
    obtain ⟨a, vs, rfl, t, u⟩ := s
    exact .inr (.inl ⟨vs, t, emp u⟩)
  · rename_i xs
    cases e
    obtain ⟨a, vs, rfl, ⟨t, _⟩, u⟩ := s
    exact .inl ⟨vs, SqL.of t, emp u⟩
  · rename_i n
    obtain ⟨a, rfl, i⟩ := s
    split at e
    · rename_i xs hn
      cases e
      obtain ⟨vs, t, u⟩ := r.cells n a _ i hn
      exact .inl ⟨vs, SqL.of t, emp u⟩
    · cases e
  · cases e
  · cases e
end
end PL
end
section
set_option Elab.async false
set_option linter.all false
set_option maxRecDepth 100000
set_option maxHeartbeats 1000000
/-! PLS4: built-in functions, items, methods, what is walked. -/
namespace PL
open PySem PySem.Spec PyProof.Rows L2
theorem Post.opt' {α : Type} {o : Option α} {h : Hpp} {O : α → Hpp → Prop} {E : Nat → Hpp → Prop} (p : Post (match o with | some a => R.ok a h | none => R.no) O E) : ∃ a, o = some a ∧ O a h := by
  cases o with
  | none => exact p.elim
  | some a => exact ⟨a, rfl, p⟩
section
variable {G : Ge} {F : Addr → Prop} {ι : List Addr} {H : Hp} {h : Hpp}
theorem VR.ls {d : D} {v : V} {xs : List D} (r : Rel G F ι H h) (s : VR G F ι H d v) (e : lsOf d h = some xs) : ∃ a vs, v = .ref a ∧ SqL G.K H a vs ∧ VRs G F ι H xs vs := by
  cases d with
  | sc is =>
    cases e
    obtain ⟨a, q, t⟩ := s
    refine ⟨a, _, q, ?_, VRs.ints⟩
    rcases t with t | ⟨t, _⟩
    · exact .inr t
    · exact .inl t
  | _ =>
    obtain ⟨a, vs, q, t, u⟩ := VR.lst r s e
    exact ⟨a, vs, q, SqL.of t, u⟩
theorem lstOf_seq {d : D} {xs : List D} (e : lstOf d h = some xs) : seqOf d h = some xs := by
  cases d <;> simp_all [lstOf, seqOf]
theorem blsOf_eq : ∀ {xs : List D} {bs : List Bool}, blsOf xs = some bs → xs = bs.map D.bl
  | [], bs, h => by cases h; rfl
  | .bl b :: r, bs, h => by
    unfold blsOf at h
    cases e : blsOf r with
    | none => rw [e] at h; cases h
    | some js =>
      rw [e] at h; cases h
      rw [blsOf_eq e]; rfl
  | .non :: _, _, h => by cases h
  | .int _ :: _, _, h => by cases h
  | .str _ :: _, _, h => by cases h
  | .tup _ :: _, _, h => by cases h
  | .fl _ :: _, _, h => by cases h
  | .ref _ :: _, _, h => by cases h
  | .fn _ :: _, _, h => by cases h
  | .sc _ :: _, _, h => by cases h
theorem VRs.bls_of : ∀ {bs : List Bool} {vs : List V}, VRs G F ι H (bs.map D.bl) vs → vs = bs.map V.bl
  | [], vs, r => r
  | b :: bs, vs, r => by
    obtain ⟨v, t, rfl, r1, r2⟩ := r
    have r1 : v = .bl b := r1
    rw [r1, VRs.bls_of r2]; rfl
theorem VRs.one_of {d : D} {vs : List V} (r : VRs G F ι H [d] vs) : ∃ v, vs = [v] ∧ VR G F ι H d v := by
  obtain ⟨v, t, rfl, r1, r2⟩ := r
  cases (show t = [] from r2)
  exact ⟨v, rfl, r1⟩
theorem VRs.two_of {d e : D} {vs : List V} (r : VRs G F ι H [d, e] vs) : ∃ v u, vs = [v, u] ∧ VR G F ι H d v ∧ VR G F ι H e u := by
  obtain ⟨v, t, rfl, r1, r2⟩ := r
  obtain ⟨u, rfl, r3⟩ := VRs.one_of r2
  exact ⟨v, u, rfl, r1, r3⟩
theorem maxI_spec : ∀ (m : Int) (r : List Int), (maxI m r = m ∨ maxI m r ∈ r) ∧ m ≤ maxI m r ∧ ∀ y ∈ r, y ≤ maxI m r
  | m, [] => ⟨.inl rfl, Int.le_refl _, fun y hy => by cases hy⟩
  | m, x :: r => by
    obtain ⟨h1, h2, h3⟩ := maxI_spec (if m < x then x else m) r
    unfold maxI
    by_cases c : m < x
    · rw [if_pos c] at h1 h2 h3 ⊢
      refine ⟨.inr ?_, by omega, fun y hy => ?_⟩
      · rcases h1 with e | e
        · rw [e]; exact List.mem_cons_self
        · exact List.mem_cons_of_mem _ e
      · rcases List.mem_cons.mp hy with rfl | hy
        · exact h2
        · exact h3 y hy
    · rw [if_neg c] at h1 h2 h3 ⊢
      refine ⟨?_, h2, fun y hy => ?_⟩
      · rcases h1 with e | e
        · exact .inl e
        · exact .inr (List.mem_cons_of_mem _ e)
      · rcases List.mem_cons.mp hy with rfl | hy
        · omega
        · exact h3 y hy
theorem minI_spec : ∀ (m : Int) (r : List Int), (minI m r = m ∨ minI m r ∈ r) ∧ minI m r ≤ m ∧ ∀ y ∈ r, minI m r ≤ y
  | m, [] => ⟨.inl rfl, Int.le_refl _, fun y hy => by cases hy⟩
  | m, x :: r => by
    obtain ⟨h1, h2, h3⟩ := minI_spec (if x < m then x else m) r
    unfold minI
    by_cases c : x < m
    · rw [if_pos c] at h1 h2 h3 ⊢
      refine ⟨.inr ?_, by omega, fun y hy => ?_⟩
      · rcases h1 with e | e
        · rw [e]; exact List.mem_cons_self
        · exact List.mem_cons_of_mem _ e
      · rcases List.mem_cons.mp hy with rfl | hy
        · exact h2
        · exact h3 y hy
    · rw [if_neg c] at h1 h2 h3 ⊢
      refine ⟨?_, h2, fun y hy => ?_⟩
      · rcases h1 with e | e
        · exact .inl e
        · exact .inr (List.mem_cons_of_mem _ e)
      · rcases List.mem_cons.mp hy with rfl | hy
        · omega
        · exact h3 y hy
end
def rBi (G : Ge) (b : Bi) (th : Bool) : List V → Hp → VK → Prop := fun xs H Q => ∃ F ι h ds E, Rel G F ι H h ∧ VRs G F ι H ds xs ∧ Post (doBi b th ds h) (okp G F ι H Q) E
def biV : Bi → Value
  | .len => .builtin "len"
  | .abs => .builtin "abs"
  | .int => .type "int"
  | .all => .builtin "all"
  | .any => .builtin "any"
  | .tuple => .type "tuple"
  | .list => .type "list"
  | .sum => .builtin "sum"
  | .max => .builtin "max"
  | .min => .builtin "min"
  | .sorted => .builtin "sorted"
  | .dict => .type "dict"
/-- which of them are told here -/
def biOk : Bi → Bool
  | .sorted => false
  | .dict => false
  | _ => true
section
variable {X : Cx}
theorem call_bi (fa : Nat → Addr) (nf nx : Nat) (hc : X.calm = true) (b : Bi) (th : Bool) (ok : biOk b = true) : CallR X (biV b) (rBi ⟨X.K, fa, nf, nx⟩ b th) := by
  intro pins s σ H xs us Q I rx ⟨F, ι, h, ds, E, r, rs, P⟩
  unfold doBi at P
  split at P
  · -- len
    rename_i d
    obtain ⟨v, rfl, rv⟩ := VRs.one_of rs
    split at P
    · rename_i ys e
      obtain ⟨a, vs, rfl, t, u⟩ := VR.seq r rv e
      exact call_len_seq pins s σ H _ us Q I rx ⟨a, vs, rfl, t, same_ok r P (by rw [← VRs.length u]; exact rfl)⟩
    · split at P
      · rename_i kvs e
        -- dicts: not told
        exfalso
        cases d with
        | ref n =>
          obtain ⟨a, rfl, i⟩ := rv
          unfold dicOf at e
          simp only at e
          split at e
          · rename_i hn
            exact (r.cells n a _ i hn).elim
          · cases e
        | _ => cases e
      · split at P
        · split at P
          · rename_i x _ _ c
            exact call_len_str pins s σ H _ us Q I rx ⟨x, by rw [show v = V.str x from rv], by rw [line_eq]; exact c, same_ok r P rfl⟩
          · exact P.elim
        · exact P.elim
  · rename_i i
    obtain ⟨v, rfl, rv⟩ := VRs.one_of rs
    exact call_abs pins s σ H _ us Q I rx ⟨i, by rw [show v = V.int i from rv], same_ok r P rfl⟩
  · rename_i i
    obtain ⟨v, rfl, rv⟩ := VRs.one_of rs
    exact call_int1 pins s σ H _ us Q I rx (.inl ⟨i, by rw [show v = V.int i from rv], same_ok r P rfl⟩)
  · rename_i k
    obtain ⟨v, rfl, rv⟩ := VRs.one_of rs
    exact call_int1 pins s σ H _ us Q I rx (.inr ⟨k, by rw [show v = V.bl k from rv], same_ok r P rfl⟩)
  · rename_i d
    obtain ⟨v, rfl, rv⟩ := VRs.one_of rs
    split at P
    · rename_i ys e
      split at P
      · rename_i bs eb
        obtain ⟨a, vs, rfl, t, u⟩ := VR.lst r rv e
        rw [blsOf_eq eb] at u
        rw [VRs.bls_of u] at t
        exact cr_all hc pins s σ H _ us Q I rx ⟨a, bs, rfl, SqL.of t, same_ok r P rfl⟩
      · exact P.elim
    · exact P.elim
  · rename_i d
    obtain ⟨v, rfl, rv⟩ := VRs.one_of rs
    split at P
    · rename_i ys e
      split at P
      · rename_i bs eb
        obtain ⟨a, vs, rfl, t, u⟩ := VR.lst r rv e
        rw [blsOf_eq eb] at u
        rw [VRs.bls_of u] at t
        exact cr_any hc pins s σ H _ us Q I rx ⟨a, bs, rfl, SqL.of t, same_ok r P rfl⟩
      · exact P.elim
    · exact P.elim
  · rename_i d
    obtain ⟨v, rfl, rv⟩ := VRs.one_of rs
    split at P
    · rename_i ys e
      obtain ⟨a, vs, rfl, t, u⟩ := VR.seq r rv e
      refine call_tuple_of pins s σ H _ us Q I rx ⟨a, vs, rfl, ?_⟩
      rcases t with t | t
      · exact .inl ⟨t, fun l n => tup_ok r u P n⟩
      · exact .inr ⟨t, same_ok r P ⟨a, vs, rfl, t, u⟩⟩
    · exact P.elim
  · rename_i d
    obtain ⟨v, rfl, rv⟩ := VRs.one_of rs
    split at P
    · rename_i ys e
      obtain ⟨a, vs, rfl, t, u⟩ := VR.seq r rv e
      exact call_list_of pins s σ H _ us Q I rx ⟨a, vs, rfl, t, fun l n => new_ok r u P n⟩
    · exact P.elim
  · rename_i d
    obtain ⟨v, rfl, rv⟩ := VRs.one_of rs
    split at P
    · rename_i ys e
      split at P
      · rename_i is eb
        obtain ⟨a, vs, rfl, t, u⟩ := VR.ls r rv e
        rw [intsOf_eq eb] at u
        rw [VRs.ints_of u] at t
        exact cr_sum hc pins s σ H _ us Q I rx ⟨a, is, rfl, t, same_ok r P rfl⟩
      · exact P.elim
    · exact P.elim
  · rename_i i j
    obtain ⟨v, u, rfl, rv, ru⟩ := VRs.two_of rs
    exact call_max2 hc pins s σ H _ us Q I rx ⟨i, j, by rw [show v = V.int i from rv, show u = V.int j from ru], same_ok r P rfl⟩
  · rename_i i j
    obtain ⟨v, u, rfl, rv, ru⟩ := VRs.two_of rs
    exact call_min2 hc pins s σ H _ us Q I rx ⟨i, j, by rw [show v = V.int i from rv, show u = V.int j from ru], same_ok r P rfl⟩
  · rename_i d _
    obtain ⟨v, rfl, rv⟩ := VRs.one_of rs
    split at P
    · rename_i ys e
      split at P
      · rename_i i is eb
        obtain ⟨a, vs, rfl, t, u⟩ := VR.ls r rv e
        rw [intsOf_eq eb] at u
        rw [VRs.ints_of u] at t
        refine cr_max hc pins s σ H _ us Q I rx ⟨a, i :: is, rfl, t, by simp, fun m hm hy => same_ok r P ?_⟩
        obtain ⟨h1, h2, h3⟩ := maxI_spec i is
        have e1 : m ≤ maxI i is := by
          rcases List.mem_cons.mp hm with rfl | hm
          · exact h2
          · exact h3 m hm
        have e2 : maxI i is ≤ m := by
          rcases h1 with e | e
          · rw [e]; exact hy i List.mem_cons_self
          · exact hy _ (List.mem_cons_of_mem _ e)
        rw [show m = maxI i is by omega]
        exact rfl
      · exact P.elim
    · exact P.elim
  · rename_i d _
    obtain ⟨v, rfl, rv⟩ := VRs.one_of rs
    split at P
    · rename_i ys e
      split at P
      · rename_i i is eb
        obtain ⟨a, vs, rfl, t, u⟩ := VR.ls r rv e
        rw [intsOf_eq eb] at u
        rw [VRs.ints_of u] at t
        refine cr_min hc pins s σ H _ us Q I rx ⟨a, i :: is, rfl, t, by simp, fun m hm hy => same_ok r P ?_⟩
        obtain ⟨h1, h2, h3⟩ := minI_spec i is
        have e1 : minI i is ≤ m := by
          rcases List.mem_cons.mp hm with rfl | hm
          · exact h2
          · exact h3 m hm
        have e2 : m ≤ minI i is := by
          rcases h1 with e | e
          · rw [e]; exact hy i List.mem_cons_self
          · exact hy _ (List.mem_cons_of_mem _ e)
        rw [show m = minI i is by omega]
        exact rfl
      · exact P.elim
    · exact P.elim
  · cases ok
  · cases ok
  · exact P.elim
end
/-! ### items -/
section
variable {X : Cx}
theorem atI_eq {α : Type} (xs : List α) (i : Int) : atI xs i = L2.atI xs i := by
  unfold atI L2.atI
  show _ = (ixN xs.length i).bind _
  cases ixN xs.length i <;> rfl
theorem ixN_lt {n : Nat} {i : Int} {j : Nat} (h : ixN n i = some j) : j < n := by
  unfold ixN at h
  split at h
  · split at h
    · cases h; omega
    · cases h
  · split at h
    · cases h; omega
    · cases h
theorem VRs.atI {G : Ge} {F : Addr → Prop} {ι : List Addr} {H : Hp} {ds : List D} {vs : List V} {i : Int} {d : D} (s : VRs G F ι H ds vs) (e : PL.atI ds i = some d) : ∃ v, L2.atI vs i = some v ∧ VR G F ι H d v := by
  rw [← atI_eq]
  unfold PL.atI at e ⊢
  rw [VRs.length s]
  cases c : ixN ds.length i with
  | none => rw [c] at e; cases e
  | some j =>
    rw [c] at e
    obtain ⟨v, h1, h2⟩ := s.get e
    exact ⟨v, h1, h2⟩
theorem no_dic {G : Ge} {F : Addr → Prop} {ι : List Addr} {H : Hp} {h : Hpp} {d : D} {v : V} (r : Rel G F ι H h) (rv : VR G F ι H d v) : dicOf d h = none := by
  cases d with
  | ref n =>
    obtain ⟨a, rfl, i⟩ := rv
    unfold dicOf
    simp only
    split
    · rename_i hn
      exact (r.cells n a _ i hn).elim
    · rfl
  | _ => rfl
def rItem (G : Ge) : R2 := fun x y H Q => ∃ F ι h a b c, Rel G F ι H h ∧ VR G F ι H a x ∧ VR G F ι H b y ∧ item a b h = some c ∧ ∀ v, VR G F ι H c v → Q v H
theorem ix_item (fa : Nat → Addr) (nf nx : Nat) : IxR X (rItem ⟨X.K, fa, nf, nx⟩) := by
  intro value slice pins s σ H x y v u Q I rx ry ⟨F, ι, h, a, b, c, r, ra, rb, P, q⟩ hs
  unfold item at P
  split at P
  · rename_i z i
    split at P
    · rename_i hz
      split at P
      · rename_i ch e
        cases P
        exact ix_str value slice pins s σ H _ _ v u Q I rx ry ⟨z, i, ch, ra, rb, by rw [line_eq]; exact hz, by rw [← atI_eq]; exact e, q _ rfl⟩ hs
      · cases P
    · cases P
  · rw [no_dic r ra] at P
    simp only at P
    split at P
    · rename_i xs i e _
      obtain ⟨p, vs, rfl, t, u'⟩ := VR.seq r ra e
      obtain ⟨v', e1, rv⟩ := VRs.atI u' P
      rcases t with t | t
      · exact ix_list value slice pins s σ H _ y v u Q I rx ry ⟨p, vs, i, v', rfl, rb, t, e1, q v' rv⟩ hs
      · exact ix_tup value slice pins s σ H _ y v u Q I rx ry ⟨p, vs, i, v', rfl, rb, t, e1, q v' rv⟩ hs
    · cases P
/-- a store into a list -/
def rSet (G : Ge) : V → V → V → Hp → (Hp → Prop) → Prop := fun o i v H Q => ∃ F ι h a b d h', Rel G F ι H h ∧ VR G F ι H a o ∧ VR G F ι H b i ∧ VR G F ι H d v ∧ setItem a b d h = some h' ∧ ∀ H', Grow H ι H' ι → Rel G F ι H' h' → Q H'
theorem set_item (fa : Nat → Addr) (nf nx : Nat) : PSet X (rSet ⟨X.K, fa, nf, nx⟩) := by
  intro pins s σ H o i v ov iv u Q I ro ri rv ⟨F, ι, h, a, b, d, h', r, ra, rb, rd, P, q⟩
  refine set_list pins s σ H o i v ov iv u Q I ro ri rv ?_
  unfold setItem at P
  split at P
  · rename_i n
    obtain ⟨p, rfl, hi⟩ := ra
    split at P
    · rename_i xs hn
      split at P
      · rename_i k
        split at P
        · rename_i j e
          cases P
          obtain ⟨vs, t, w⟩ := r.cells n p _ hi hn
          obtain ⟨r', g⟩ := r.set hi (w.set rd j)
          exact ⟨p, vs, k, j, rfl, rb, t, by rw [VRs.length w]; exact e, q _ g r'⟩
        · cases P
      · cases P
    · rename_i hn
      exact (r.cells n p _ hi hn).elim
    · cases P
  · cases P
end
end PL
end
section
set_option Elab.async false
set_option linter.all false
set_option maxRecDepth 100000
set_option maxHeartbeats 1000000
/-! PLK: the checker: a def's syntax is the term. -/
namespace PL
open PySem PySem.Spec PyProof.Rows L2
/-- what the program's defs are named -/
structure Tab where
  fname : List Str
  xname : List Str
  cst : List (Str × D)
/-! ### the shapes of the syntax -/
def asConst : Expr → Option (Const × Nat × Pos)
  | .Constant c k p => some (c, k, p)
  | _ => none
theorem asConst_eq {e : Expr} {x} (h : asConst e = some x) : e = .Constant x.1 x.2.1 x.2.2 := by cases e <;> first | (cases h; rfl) | cases h
/-- no star, no slice, no display of a set -/
def plain : Expr → Bool
  | .Starred _ _ => false
  | .Slice _ _ _ _ => false
  | .Set _ _ _ => false
  | _ => true
theorem plain_star {e : Expr} (h : plain e = true) (es : List Expr) (env : PySem.Env) : starEach (e :: es) env = (false, eval e env) :: starEach es env := by
  cases e <;> first | rfl | cases h
theorem plain_asg {e : Expr} (h : plain e = true) (es : List Expr) (env : PySem.Env) : assignEach (e :: es) env = (false, assign e env) :: assignEach es env := by
  cases e <;> first | rfl | cases h
theorem plain_behind {e : Expr} (h : plain e = true) (op : CmpOp) : behindInMarks op e = false := by
  cases e <;> first | rfl | cases h
theorem plain_ix {e : Expr} (h : plain e = true) : PlainIx e := by
  cases e <;> first | (intro _ _; rfl) | cases h
theorem plain_fold {e : Expr} (h : plain e = true) (env : PySem.Env) : ∀ x, foldedSetIterable e env x = pure x := by
  cases e <;> first | (intro _; rfl) | cases h
def plainAll : List Expr → Bool
  | [] => true
  | e :: es => plain e && plainAll es
theorem plainAll_back {es : List Expr} (h : plainAll es = true) (pos : Pos) (env : PySem.Env) : (backTo pos (starEach es env)).any (·.1) = false := by
  induction es with
  | nil => rfl
  | cons e es ih =>
    rw [plainAll, Bool.and_eq_true] at h
    rw [plain_star h.1]
    show (false || (backTo pos (starEach es env)).any (·.1)) = false
    rw [ih h.2]; rfl
theorem plainAll_asg {es : List Expr} (h : plainAll es = true) (env : PySem.Env) : (assignEach es env).length = es.length ∧ (assignEach es env).findIdx? (·.1) = none := by
  induction es with
  | nil => exact ⟨rfl, rfl⟩
  | cons e es ih =>
    rw [plainAll, Bool.and_eq_true] at h
    rw [plain_asg h.1]
    obtain ⟨h1, h2⟩ := ih h.2
    exact ⟨by simp [h1], by rw [List.findIdx?_cons, h2]; rfl⟩
/-- its truth is its value's truth -/
def truPlain : Expr → Bool
  | .UnaryOp .Not _ _ => false
  | .BoolOp _ _ _ => false
  | .IfExp _ _ _ _ => false
  | .Compare _ _ _ _ => false
  | _ => true
theorem truPlain_is {e : Expr} (h : truPlain e = true) (env : PySem.Env) : ∀ whole, isTrue e env whole = (do let v ← whole; standAt e.pos; holding [v] (PySem.truthy v)) := by
  cases e with
  | UnaryOp o a p => cases o <;> first | (intro _; rfl) | cases h
  | _ => first | (intro _; rfl) | cases h
/-- no super() -/
def plainBase : Expr → Bool
  | .Call (.Name _ _) _ _ _ => false
  | _ => true
theorem plainBase_is {o : Expr} (h : plainBase o = true) (name : Str) (env : PySem.Env) : attributeBase o name env (eval o env) = eval o env := by
  cases o with
  | Call f a k p => cases f <;> first | rfl | cases h
  | _ => rfl
/-! ### names -/
def goodName (x : Str) : Bool := !(x == ("__debug__" : Str)) && !(x == ("__classdict__" : Str)) && decide (x ≠ "__name__")
def glC (sc : Scope) (x : Str) : Bool := decide (sc.names.lookup x = some .globalImplicit)
def visC (sc : Scope) (x : Str) : Bool := match sc.names.lookup x with
  | some .local => true
  | some .cell => true
  | some .free => true
  | _ => false
def stoC (sc : Scope) (fb : Str → Bool) (x : Str) : Bool := match sc.names.lookup x with
  | some .local => true
  | some .cell => fb x
  | _ => false
theorem visC_ok {sc : Scope} {x : Str} (h : visC sc x = true) : Vis sc x := by
  unfold visC at h
  split at h <;> rename_i e
  · exact .inl e
  · exact .inr (.inl e)
  · exact .inr (.inr e)
  · cases h
theorem stoC_ok {sc : Scope} {fb : Str → Bool} {x : Str} (h : stoC sc fb x = true) : Loc sc x ∧ (fb x = true ∨ sc.names.lookup x = some .local) := by
  unfold stoC at h
  split at h <;> rename_i e
  · exact ⟨.inl e, .inr e⟩
  · exact ⟨.inr e, .inl h⟩
  · cases h
def biName : Bi → Str
  | .len => "len"
  | .abs => "abs"
  | .int => "int"
  | .all => "all"
  | .any => "any"
  | .tuple => "tuple"
  | .list => "list"
  | .sum => "sum"
  | .max => "max"
  | .min => "min"
  | .sorted => "sorted"
  | .dict => "dict"
def tyName : Ty → Str
  | .int => "int"
  | .bool => "bool"
  | .str => "str"
  | .tuple => "tuple"
  | .list => "list"
def mtName : Mt → Str
  | .append => "append"
  | .extend => "extend"
  | .insert => "insert"
  | .pop => "pop"
  | .remove => "remove"
  | .index => "index"
  | .count => "count"
  | .get => "get"
/-- names of built-ins that no def hides -/
def bnames : List Str := ["len", "abs", "int", "all", "any", "tuple", "list", "sum", "max", "min", "sorted", "dict", "bool", "str", "isinstance", "range", "enumerate", "zip"]
/-- a and b and ..: the rest -/
def tailB (op : BoolOp) (pos : Pos) : List Expr → Expr
  | [y] => y
  | l => .BoolOp op l pos
def ownOf (N : List Str) (own : List Nat) : List (Str × Nat) := own.map fun i => (N.getD i "", i)
theorem ownOf_ix (N : List Str) (own : List Nat) : (ownOf N own).map (·.2) = own := by
  unfold ownOf
  rw [List.map_map]
  show own.map id = own
  exact List.map_id own
/-! ### views -/
def vName (p : Expr) : Option Str := match p with
  | .Name x _ => some x
  | _ => none
theorem vName_eq {p : Expr} {x : Str} (h : vName p = some x) : ∃ pos, p = .Name x pos := by
  cases p <;> first | (cases h; exact ⟨_, rfl⟩) | cases h
def vTup (p : Expr) : Option (List Expr) := match p with
  | .Tuple es _ _ => if es.length ≤ 1000 then some es else none
  | _ => none
theorem vTup_eq {p : Expr} {x} (h : vTup p = some x) : (∃ k pos, p = .Tuple x k pos) ∧ x.length ≤ 1000 := by
  unfold vTup at h
  split at h
  · split at h
    · cases h; exact ⟨⟨_, _, rfl⟩, by assumption⟩
    · cases h
  · cases h
def vLst (p : Expr) : Option (List Expr) := match p with
  | .List es _ => if es.length ≤ 1000 then some es else none
  | _ => none
theorem vLst_eq {p : Expr} {x} (h : vLst p = some x) : (∃ pos, p = .List x pos) ∧ x.length ≤ 1000 := by
  unfold vLst at h
  split at h
  · split at h
    · cases h; exact ⟨⟨_, rfl⟩, by assumption⟩
    · cases h
  · cases h
def vBin (o : Operator) (p : Expr) : Option (Expr × Expr) := match p with
  | .BinOp x o' y _ => if o' = o then some (x, y) else none
  | _ => none
theorem vBin_eq {o : Operator} {p : Expr} {x} (h : vBin o p = some x) : ∃ pos, p = .BinOp x.1 o x.2 pos := by
  unfold vBin at h
  split at h
  · split at h
    · rename_i e; cases h; subst e; exact ⟨_, rfl⟩
    · cases h
  · cases h
def vUn (o : UnaryOp) (p : Expr) : Option Expr := match p with
  | .UnaryOp o' x _ => if o' = o then some x else none
  | _ => none
theorem vUn_eq {o : UnaryOp} {p : Expr} {x} (h : vUn o p = some x) : ∃ pos, p = .UnaryOp o x pos := by
  unfold vUn at h
  split at h
  · split at h
    · rename_i e; cases h; subst e; exact ⟨_, rfl⟩
    · cases h
  · cases h
def vBool (o : BoolOp) (p : Expr) : Option (Expr × Expr) := match p with
  | .BoolOp o' (x :: y :: r) pos => if o' = o then some (x, tailB o pos (y :: r)) else none
  | _ => none
theorem vBool_eq {o : BoolOp} {p : Expr} {x} (h : vBool o p = some x) : ∃ y r pos, p = .BoolOp o (x.1 :: y :: r) pos ∧ x.2 = tailB o pos (y :: r) := by
  unfold vBool at h
  split at h
  · split at h
    · rename_i e; cases h; subst e; exact ⟨_, _, _, rfl, rfl⟩
    · cases h
  · cases h
def vCmp (o : CmpOp) (p : Expr) : Option (Expr × Expr) := match p with
  | .Compare x [o'] [y] _ => if o' = o ∧ plain y = true then some (x, y) else none
  | _ => none
theorem vCmp_eq {o : CmpOp} {p : Expr} {x} (h : vCmp o p = some x) : (∃ pos, p = .Compare x.1 [o] [x.2] pos) ∧ plain x.2 = true := by
  unfold vCmp at h
  split at h
  · split at h
    · rename_i e; cases h; obtain ⟨rfl, e⟩ := e; exact ⟨⟨_, rfl⟩, e⟩
    · cases h
  · cases h
def vIsN (o : CmpOp) (p : Expr) : Option Expr := match p with
  | .Compare x [o'] [.Constant .none _ _] _ => if o' = o then some x else none
  | _ => none
theorem vIsN_eq {o : CmpOp} {p : Expr} {x} (h : vIsN o p = some x) : ∃ k q pos, p = .Compare x [o] [.Constant .none k q] pos := by
  unfold vIsN at h
  split at h
  · split at h
    · rename_i e; cases h; subst e; exact ⟨_, _, _, rfl⟩
    · cases h
  · cases h
def vChain (o1 o2 : CmpOp) (p : Expr) : Option (Expr × Expr × Expr) := match p with
  | .Compare x [p1, p2] [y, z] _ => if p1 = o1 ∧ p2 = o2 ∧ plain z = true then some (x, y, z) else none
  | _ => none
theorem vChain_eq {o1 o2 : CmpOp} {p : Expr} {x} (h : vChain o1 o2 p = some x) : (∃ pos, p = .Compare x.1 [o1, o2] [x.2.1, x.2.2] pos) ∧ plain x.2.2 = true := by
  unfold vChain at h
  split at h
  · split at h
    · rename_i e; cases h; obtain ⟨rfl, rfl, e⟩ := e; exact ⟨⟨_, rfl⟩, e⟩
    · cases h
  · cases h
def vIf (p : Expr) : Option (Expr × Expr × Expr) := match p with
  | .IfExp a b c _ => some (a, b, c)
  | _ => none
theorem vIf_eq {p : Expr} {x} (h : vIf p = some x) : ∃ pos, p = .IfExp x.1 x.2.1 x.2.2 pos := by
  unfold vIf at h
  split at h
  · cases h; exact ⟨_, rfl⟩
  · cases h
def vCall (p : Expr) : Option (Str × List Expr) := match p with
  | .Call (.Name x _) es [] _ => some (x, es)
  | _ => none
theorem vCall_eq {p : Expr} {x} (h : vCall p = some x) : ∃ q pos, p = .Call (.Name x.1 q) x.2 [] pos := by
  unfold vCall at h
  split at h
  · cases h; exact ⟨_, _, rfl⟩
  · cases h
def vMeth (p : Expr) : Option (Expr × Str × List Expr) := match p with
  | .Call (.Attribute o x apos) es [] cpos => if (apos.endLine == cpos.line) = true ∧ plainBase o = true ∧ es.length ≤ 4 then some (o, x, es) else none
  | _ => none
theorem vMeth_eq {p : Expr} {x} (h : vMeth p = some x) : (∃ apos cpos, p = .Call (.Attribute x.1 x.2.1 apos) x.2.2 [] cpos ∧ (apos.endLine == cpos.line) = true) ∧ plainBase x.1 = true ∧ x.2.2.length ≤ 4 := by
  unfold vMeth at h
  split at h
  · split at h
    · rename_i e; cases h; exact ⟨⟨_, _, rfl, e.1⟩, e.2⟩
    · cases h
  · cases h
def vSub (p : Expr) : Option (Expr × Expr) := match p with
  | .Subscript x y _ => if plain y = true then some (x, y) else none
  | _ => none
theorem vSub_eq {p : Expr} {x} (h : vSub p = some x) : (∃ pos, p = .Subscript x.1 x.2 pos) ∧ plain x.2 = true := by
  unfold vSub at h
  split at h
  · split at h
    · rename_i e; cases h; exact ⟨⟨_, rfl⟩, e⟩
    · cases h
  · cases h
def vSl (p : Expr) : Option (Expr × Option Expr × Option Expr) := match p with
  | .Subscript x (.Slice lo hi none _) _ => some (x, lo, hi)
  | _ => none
theorem vSl_eq {p : Expr} {x} (h : vSl p = some x) : ∃ p2 pos, p = .Subscript x.1 (.Slice x.2.1 x.2.2 none p2) pos := by
  unfold vSl at h
  split at h
  · cases h; exact ⟨_, _, rfl⟩
  · cases h
def vRev (p : Expr) : Option Expr := match p with
  | .Subscript x (.Slice none none (some (.UnaryOp .USub (.Constant (.int 1) _ _) _)) _) _ => some x
  | _ => none
theorem vRev_eq {p x : Expr} (h : vRev p = some x) : ∃ k p1 p2 p3 pos, p = .Subscript x (.Slice none none (some (.UnaryOp .USub (.Constant (.int 1) k p1) p2)) p3) pos := by
  unfold vRev at h
  split at h
  · cases h; exact ⟨_, _, _, _, _, rfl⟩
  · cases h
structure Cmp1 where
  elt : Expr
  tg : Expr
  it : Expr
  ifs : List Expr
  scope : Scope
def vComp (p : Expr) : Option Cmp1 := match p with
  | .ListComp e [⟨t, i, ifs, 0⟩] scope _ => if plain i = true ∧ ifs.length ≤ 1 then some ⟨e, t, i, ifs, scope⟩ else none
  | _ => none
theorem vComp_eq {p : Expr} {x} (h : vComp p = some x) : (∃ pos, p = .ListComp x.elt [⟨x.tg, x.it, x.ifs, 0⟩] x.scope pos) ∧ plain x.it = true ∧ x.ifs.length ≤ 1 := by
  unfold vComp at h
  split at h
  · split at h
    · rename_i e; cases h; exact ⟨⟨_, rfl⟩, e⟩
    · cases h
  · cases h
/-- the methods told here -/
def mtOk : Mt → Bool
  | .append => true
  | .extend => true
  | .pop => true
  | .insert => true
  | .index => true
  | _ => false
/-- a target's slots are among these -/
def tgIn (vs : List Nat) : Tg → Bool
  | .nil => true
  | .name i => decide (i ∈ vs)
  | .tup ts => tgIn vs ts
  | .cons t ts => tgIn vs t && tgIn vs ts
def glN (sc : Scope) (x y : Str) : Bool := decide (x = y) && glC sc x
mutual
def chkG (N : List Str) (sc : Scope) (fb : Str → Bool) : Tg → Expr → Bool
  | .nil, _ => false
  | .name i, p => match vName p with
    | some x => decide (N[i]? = some x) && stoC sc fb x
    | none => false
  | .tup ts, p => match vTup p with
    | some es => plainAll es && chkGs N sc fb ts es
    | none => false
  | .cons _ _, _ => false
def chkGs (N : List Str) (sc : Scope) (fb : Str → Bool) : Tg → List Expr → Bool
  | .nil, es => es.isEmpty
  | .cons t ts, es => match es with
    | e :: r => chkG N sc fb t e && chkGs N sc fb ts r
    | [] => false
  | .name _, _ => false
  | .tup _, _ => false
end
def fbOf (scope : Scope) : Str → Bool := fun x => scope.names.lookup x == some .cell
/-- isinstance's second argument -/
def chkTys (sc : Scope) : List Ty → List Expr → Bool
  | [], es => es.isEmpty
  | t :: ts, es => match es with
    | e :: r => (match vName e with
      | some x => glN sc x (tyName t)
      | none => false) && plain e && chkTys sc ts r
    | [] => false
def chkIsi (sc : Scope) (ts : List Ty) (p : Expr) : Bool := match ts with
  | [t] => chkTys sc [t] [p]
  | ts => match vTup p with
    | some es => chkTys sc ts es
    | none => false
def chkCst (T : Tab) (sc : Scope) (d : D) (p : Expr) : Bool := match d with
  | .fn f => match vName p with
    | some x => decide (T.fname[f]? = some x) && glC sc x && goodName x
    | none => false
  | d => match asConst p with
    | some (c, _, _) => match d, c with
      | .non, .none => true
      | .bl b, .bool c => b == c
      | .int i, .int j => decide (i = j)
      | .str s, .str t => decide (s = t)
      | _, _ => false
    | none => false
mutual
def chkE (T : Tab) (N : List Str) : E → Scope → (Str → Bool) → Expr → Bool
  | .cst d, sc, _, p => chkCst T sc d p
  | .var i, sc, _, p => match vName p with
    | some x => decide (N[i]? = some x) && visC sc x && goodName x
    | none => false
  | .glb x d, sc, _, p => match vName p with
    | some y => decide (x = y) && decide (T.cst.lookup x = some d) && glC sc x && goodName x
    | none => false
  | .tup es, sc, fb, p => match vTup p with
    | some ps => chkEs T N es sc fb ps
    | none => false
  | .lst _ es, sc, fb, p => match vLst p with
    | some ps => chkEs T N es sc fb ps
    | none => false
  | .bin _ op a b, sc, fb, p => match vBin (pyOp op) p with
    | some q => chkE T N a sc fb q.1 && chkE T N b sc fb q.2
    | none => false
  | .neg a, sc, fb, p => match vUn .USub p with
    | some x => chkE T N a sc fb x
    | none => false
  | .not a, sc, fb, p => match vUn .Not p with
    | some x => chkE T N a sc fb x
    | none => false
  | .and a b, sc, fb, p => match vBool .And p with
    | some q => chkE T N a sc fb q.1 && chkE T N b sc fb q.2
    | none => false
  | .or a b, sc, fb, p => match vBool .Or p with
    | some q => chkE T N a sc fb q.1 && chkE T N b sc fb q.2
    | none => false
  | .cmp op a b, sc, fb, p => match vCmp (pyCop op) p with
    | some q => chkE T N a sc fb q.1 && chkE T N b sc fb q.2
    | none => false
  | .isN ng a, sc, fb, p => match vIsN (if ng then .IsNot else .Is) p with
    | some x => chkE T N a sc fb x
    | none => false
  | .inn ng a b, sc, fb, p => match vCmp (if ng then .NotIn else .In) p with
    | some q => chkE T N a sc fb q.1 && chkE T N b sc fb q.2
    | none => false
  | .chain o1 o2 a b c, sc, fb, p => match vChain (pyCop o1) (pyCop o2) p with
    | some q => chkE T N a sc fb q.1 && chkE T N b sc fb q.2.1 && chkE T N c sc fb q.2.2
    | none => false
  | .ite c a b, sc, fb, p => match vIf p with
    | some q => chkE T N c sc fb q.1 && chkE T N a sc fb q.2.1 && chkE T N b sc fb q.2.2
    | none => false
  | .call f es, sc, fb, p => match vCall p with
    | some q => decide (T.fname[f]? = some q.1) && glC sc q.1 && goodName q.1 && chkEs T N es sc fb q.2
    | none => false
  | .callv i es, sc, fb, p => match vCall p with
    | some q => decide (N[i]? = some q.1) && visC sc q.1 && goodName q.1 && !q.2.isEmpty && chkEs T N es sc fb q.2
    | none => false
  | .bi b _ es, sc, fb, p => match vCall p with
    | some q => biOk b && glN sc q.1 (biName b) && !q.2.isEmpty && chkEs T N es sc fb q.2
    | none => false
  | .conv _ _ _, _, _, _ => false
  | .isi a ts, sc, fb, p => match vCall p with
    | some q => match q.2 with
      | [x, y] => glN sc q.1 "isinstance" && plain x && plain y && chkE T N a sc fb x && chkIsi sc ts y
      | _ => false
    | none => false
  | .mth m o es, sc, fb, p => match vMeth p with
    | some q => mtOk m && decide (q.2.1 = mtName m) && chkE T N o sc fb q.1 && chkEs T N es sc fb q.2.2
    | none => false
  | .idx a b, sc, fb, p => match vSub p with
    | some q => chkE T N a sc fb q.1 && chkE T N b sc fb q.2
    | none => false
  | .sl _ a lo hi, sc, fb, p => match vSl p with
    | some q => chkE T N a sc fb q.1 && chkO T N lo sc fb q.2.1 && chkO T N hi sc fb q.2.2
    | none => false
  | .rev _ a, sc, fb, p => match vRev p with
    | some x => chkE T N a sc fb x
    | none => false
  | .comp _ elt tg it cs own, sc, fb, p => match vComp p with
    | some q => blkC N sc q.scope (ownOf N own) && tgIn own tg && chkI T N it sc fb q.tg q.it && chkG N (relS q.scope sc) (fbOf q.scope) tg q.tg &&
        chkEs T N cs (relS q.scope sc) (fbOf q.scope) q.ifs && chkE T N elt (relS q.scope sc) (fbOf q.scope) q.elt
    | none => false
  | .comp2 _ _ _ _ _ _ _ _ _, _, _, _ => false
  | .dic _ _, _, _, _ => false
def chkEs (T : Tab) (N : List Str) : Es → Scope → (Str → Bool) → List Expr → Bool
  | .nil, _, _, ps => ps.isEmpty
  | .cons e es, sc, fb, ps => match ps with
    | p :: r => plain p && chkE T N e sc fb p && chkEs T N es sc fb r
    | [] => false
/-- a slice's part -/
def chkO (T : Tab) (N : List Str) : Es → Scope → (Str → Bool) → Option Expr → Bool
  | .nil, _, _, p => p.isNone
  | .cons e es, sc, fb, p => match p with
    | some x => chkE T N e sc fb x && (match es with
      | .nil => true
      | .cons _ _ => false)
    | none => false
def chkI (T : Tab) (N : List Str) : Itr → Scope → (Str → Bool) → Expr → Expr → Bool
  | .of e, sc, fb, _, p => chkE T N e sc fb p
  | .range1 a, sc, fb, _, p => match vCall p with
    | some q => match q.2 with
      | [x] => glN sc q.1 "range" && plain x && chkE T N a sc fb x
      | _ => false
    | none => false
  | .range2 a b, sc, fb, _, p => match vCall p with
    | some q => match q.2 with
      | [x, y] => glN sc q.1 "range" && plain x && plain y && chkE T N a sc fb x && chkE T N b sc fb y
      | _ => false
    | none => false
  | .range3 a b d, sc, fb, _, p => match vCall p with
    | some q => match q.2 with
      | [x, y, z] => glN sc q.1 "range" && plain x && plain y && plain z && chkE T N a sc fb x && chkE T N b sc fb y && chkE T N d sc fb z
      | _ => false
    | none => false
  | .enum e, sc, fb, t, p => match vCall p with
    | some q => match q.2 with
      | [x] => glN sc q.1 "enumerate" && plain x && chkE T N e sc fb x && (vTup t).isSome
      | _ => false
    | none => false
  | .zip a b, sc, fb, t, p => match vCall p with
    | some q => match q.2 with
      | [x, y] => glN sc q.1 "zip" && plain x && plain y && chkE T N a sc fb x && chkE T N b sc fb y && (vTup t).isSome
      | _ => false
    | none => false
end
end PL
end
section
set_option Elab.async false
set_option linter.all false
set_option maxRecDepth 100000
set_option maxHeartbeats 1000000
/-! PLS5: a checked expression does what the evaluator tells. -/
namespace PL
open PySem PySem.Spec PyProof.Rows L2
def erx (G : Ge) (F : Addr → Prop) (xa : Nat → Addr) (ι : List Addr) (H : Hp) (W : WX) : Nat → Hpp → Prop := fun c h' => c < G.nx → ∀ H' ι', Grow H ι H' ι' → Rel G F ι' H' h' → ∀ dx σ', W (.ref (xa c)) dx σ' H'
def erk (G : Ge) (F : Addr → Prop) (xa : Nat → Addr) (ι : List Addr) (H : Hp) (E : XK) : Nat → Hpp → Prop := fun c h' => c < G.nx → ∀ H' ι', Grow H ι H' ι' → Rel G F ι' H' h' → ∀ dx, E (.ref (xa c)) dx H'
/-- a def's promise -/
def spF (G : Ge) (xa : Nat → Addr) (cal : Cal) (f : Nat) : Sp := fun vs H Q E => ∃ F ι h ds, Rel G F ι H h ∧ VRs G F ι H ds vs ∧ Post (cal f ds h) (okp G F ι H Q) (erk G F xa ι H E)
def EnvR (G : Ge) (F : Addr → Prop) (ι : List Addr) (H : Hp) (ρ : List (Option D)) (σ : L2.St) : Prop := ρ.length ≤ σ.length ∧ ∀ (i : Nat) (d : D), ρ[i]? = some (some d) → ∃ v, σ[i]? = some (some v) ∧ VR G F ι H d v
/-! constants -/
mutual
def KC (K : PySem.W.Frag) : D → V → Prop
  | .non, v => v = .non
  | .bl b, v => v = .bl b
  | .int i, v => v = .int i
  | .str s, v => v = .str s
  | .tup xs, v => ∃ a vs, v = .ref a ∧ (∃ (o : Obj) (its : Array Value) (n : Nat), K.lookup a = some o ∧ o.cls = .type "tuple" ∧ o.data = .seq its n ∧ its.size ≤ sizeLine ∧ Vals vs its.toList) ∧ KCs K xs vs
  | _, _ => False
def KCs (K : PySem.W.Frag) : List D → List V → Prop
  | [], vs => vs = []
  | x :: xs, vs => ∃ v r, vs = v :: r ∧ KC K x v ∧ KCs K xs r
end
section
variable {G : Ge} {F : Addr → Prop} {ι : List Addr} {H : Hp}
mutual
theorem KC.vr : ∀ {d : D} {v : V}, KC G.K d v → VR G F ι H d v
  | .non, _, r => r
  | .bl _, _, r => r
  | .int _, _, r => r
  | .str _, _, r => r
  | .tup xs, v, r => by
    obtain ⟨a, vs, e, t, u⟩ := r
    exact ⟨a, vs, e, .inr t, KCs.vr u⟩
  | .fl _, _, r => r.elim
  | .ref _, _, r => r.elim
  | .fn _, _, r => r.elim
  | .sc _, _, r => r.elim
theorem KCs.vr : ∀ {d : List D} {v : List V}, KCs G.K d v → VRs G F ι H d v
  | [], _, r => r
  | x :: xs, vs, r => by
    obtain ⟨v, t, e, r1, r2⟩ := r
    exact ⟨v, t, e, KC.vr r1, KCs.vr r2⟩
end
end
structure Ctx (T : Tab) (G : Ge) (xa : Nat → Addr) (cal : Cal) (k : Nat) (N : List Str) (sc : Scope) (fb : Str → Bool) (W : WX) (X : Cx) : Prop where
  hK : X.K = G.K
  hN : X.N = N
  nd : N.Nodup
  sc : X.env.scope = sc
  fn : X.fn = fb
  calm : X.calm = true
  room : Room k X.A
  takes : Takes X W
  fnm : ∀ f x, T.fname[f]? = some x → X.mg x = some (.ref (G.fa f))
  fns : ∀ f, f < T.fname.length → PySem.W.keepIn X.K (.ref (G.fa f)) = true ∧ ∃ fd ps, FnOk X.prog X.w X.K X.mg X.base (L2.CX X.prog X.w) k (G.fa f) fd ps (spF G xa cal f) ∧ Binds X.K fd ps []
  nf : G.nf = T.fname.length
  nx : G.nx = T.xname.length
  exc : ∀ e x, T.xname[e]? = some x → X.mg x = some (.ref (xa e)) ∧ PySem.W.keepIn X.K (.ref (xa e)) = true ∧ Raises X (.ref (xa e)) ∧ ∃ bmB B newId initId, ExcBaseFacts B newId initId bmB ∧ PySem.W.excIn X.K (xa e) bmB newId = true
  exm : ∀ e j, e < G.nx → j < G.nx → PySem.W.exmOne X.K (.ref (xa e)) (.ref (xa j)) = some (decide (e = j))
  free : ∀ x ∈ bnames, X.mg x = none
  cst : ∀ x d, T.cst.lookup x = some d → ∃ v u, X.mg x = some u ∧ RelV v u ∧ KC X.K d v
section
variable {T : Tab} {G : Ge} {xa : Nat → Addr} {cal : Cal} {k : Nat} {N : List Str} {sc : Scope} {fb : Str → Bool} {W : WX} {X : Cx} {F : Addr → Prop} {ι : List Addr} {H : Hp} {h : Hpp} {ρ : List (Option D)} {σ : L2.St} {Q : VK}
theorem EnvR.mono {F' : Addr → Prop} {ι' : List Addr} {H' : Hp} (g : Grow H ι H' ι') (c : Cells H ι) (f : ∀ a, F' a → F a ∨ H a = none) (e : EnvR G F ι H ρ σ) : EnvR G F' ι' H' ρ σ :=
  ⟨e.1, fun i d q => let ⟨v, h1, h2⟩ := e.2 i d q; ⟨v, h1, VR.mono g c f h2⟩⟩
theorem EnvR.up {ι' : List Addr} {H' : Hp} (g : Grow H ι H' ι') (c : Cells H ι) (e : EnvR G F ι H ρ σ) : EnvR G F ι' H' ρ σ := e.mono g c fun _ z => .inl z
theorem EnvR.set {i : Nat} {d : D} {v : V} (e : EnvR G F ι H ρ σ) (r : VR G F ι H d v) : EnvR G F ι H (ρ.set i (some d)) (σ.set i (some v)) := by
  refine ⟨by simp [e.1], fun j c q => ?_⟩
  by_cases hj : i = j
  · subst hj
    have hl : i < ρ.length := by
      have := (List.getElem?_eq_some_iff.mp q).1
      simpa using this
    rw [List.getElem?_set_self hl] at q
    cases q
    exact ⟨v, List.getElem?_set_self (Nat.lt_of_lt_of_le hl e.1), r⟩
  · rw [List.getElem?_set_ne hj] at q
    obtain ⟨u, h1, h2⟩ := e.2 j c q
    exact ⟨u, by rw [List.getElem?_set_ne hj]; exact h1, h2⟩
theorem EnvR.setN {i : Nat} (e : EnvR G F ι H ρ σ) : EnvR G F ι H (ρ.set i none) (σ.set i none) := by
  refine ⟨by simp [e.1], fun j c q => ?_⟩
  by_cases hj : i = j
  · subst hj
    have hl : i < ρ.length := by
      have := (List.getElem?_eq_some_iff.mp q).1
      simpa using this
    rw [List.getElem?_set_self hl] at q
    cases q
  · rw [List.getElem?_set_ne hj] at q
    obtain ⟨u, h1, h2⟩ := e.2 j c q
    exact ⟨u, by rw [List.getElem?_set_ne hj]; exact h1, h2⟩
theorem EnvR.wipe (e : EnvR G F ι H ρ σ) : ∀ vs : List Nat, EnvR G F ι H (PL.wipe ρ vs) (L2.wipe σ vs)
  | [] => e
  | i :: r => (EnvR.wipe e r).setN
theorem Post.from {r : R D} {ι1 : List Addr} {H1 : Hp} (p : Post r (okp G F ι H Q) (erx G F xa ι H W)) (g : Grow H ι H1 ι1) : Post r (okp G F ι1 H1 Q) (erx G F xa ι1 H1 W) :=
  p.imp (fun d h' z v H' ι' g' r' s' => z v H' ι' (g.trans g') r' s') fun c h' z hc H' ι' g' r' => z hc H' ι' (g.trans g') r'
theorem erx.from {ι1 : List Addr} {H1 : Hp} {c : Nat} {h' : Hpp} (p : erx G F xa ι H W c h') (g : Grow H ι H1 ι1) : erx G F xa ι1 H1 W c h' := fun hc H' ι' g' r' => p hc H' ι' (g.trans g') r'
def rE (G : Ge) (xa : Nat → Addr) (cal : Cal) (e : E) (W : WX) : TE := fun σ H Q => ∃ F ι h ρ, Rel G F ι H h ∧ EnvR G F ι H ρ σ ∧ Post (ev cal e ρ h) (okp G F ι H Q) (erx G F xa ι H W)
def rT (G : Ge) (xa : Nat → Addr) (cal : Cal) (e : E) (W : WX) : TT := fun σ H Q => ∃ F ι h ρ, Rel G F ι H h ∧ EnvR G F ι H ρ σ ∧ Post (tru (ev cal e ρ h)) (okg G F ι H fun b H' _ => Q b H') (erx G F xa ι H W)
def rA (G : Ge) (xa : Nat → Addr) (cal : Cal) (es : Es) (W : WX) : TA := fun σ H Q => ∃ F ι h ρ, Rel G F ι H h ∧ EnvR G F ι H ρ σ ∧ Post (evs cal es ρ h) (fun ds h' => ∀ vs H' ι', Grow H ι H' ι' → Rel G F ι' H' h' → VRs G F ι' H' ds vs → Q vs H') (erx G F xa ι H W)
theorem rE_of {e : E} {O : D → Hpp → Prop} {Q' : VK} (r : Rel G F ι H h) (en : EnvR G F ι H ρ σ) (p : Post (ev cal e ρ h) O (erx G F xa ι H W))
    (q : ∀ d h1 v H1 ι1, O d h1 → Grow H ι H1 ι1 → Rel G F ι1 H1 h1 → VR G F ι1 H1 d v → Q' v H1) : rE G xa cal e W σ H Q' :=
  ⟨F, ι, h, ρ, r, en, p.imp (fun d h1 o v H1 ι1 g r1 s1 => q d h1 v H1 ι1 o g r1 s1) fun _ _ z => z⟩
theorem rT_of {e : E} {O : Bool → Hpp → Prop} {Q' : Bool → Hp → Prop} (r : Rel G F ι H h) (en : EnvR G F ι H ρ σ) (p : Post (tru (ev cal e ρ h)) O (erx G F xa ι H W))
    (q : ∀ d h1 H1 ι1, O d h1 → Grow H ι H1 ι1 → Rel G F ι1 H1 h1 → Q' d H1) : rT G xa cal e W σ H Q' :=
  ⟨F, ι, h, ρ, r, en, p.imp (fun d h1 o H1 ι1 g r1 => q d h1 H1 ι1 o g r1) fun _ _ z => z⟩
theorem rA_of {e : Es} {O : List D → Hpp → Prop} {Q' : List V → Hp → Prop} (r : Rel G F ι H h) (en : EnvR G F ι H ρ σ) (p : Post (evs cal e ρ h) O (erx G F xa ι H W))
    (q : ∀ d h1 v H1 ι1, O d h1 → Grow H ι H1 ι1 → Rel G F ι1 H1 h1 → VRs G F ι1 H1 d v → Q' v H1) : rA G xa cal e W σ H Q' :=
  ⟨F, ι, h, ρ, r, en, p.imp (fun d h1 o v H1 ι1 g r1 s1 => q d h1 v H1 ι1 o g r1 s1) fun _ _ z => z⟩
theorem PE.imp {e : Expr} {t t' : TE} (p : PE X e t) (i : ∀ σ H Q, t' σ H Q → t σ H Q) : PE X e t' := ⟨fun pins s σ H Q I q => p.run pins s σ H Q I (i _ _ _ q)⟩
theorem PT.imp {e : Expr} {t t' : TT} (p : PT X e t) (i : ∀ σ H Q, t' σ H Q → t σ H Q) : PT X e t' := ⟨fun pins s σ H Q I q => p.run pins s σ H Q I (i _ _ _ q)⟩
theorem PA.imp {e : List Expr} {t t' : TA} (p : PA X e t) (i : ∀ σ H Q, t' σ H Q → t σ H Q) : PA X e t' := ⟨fun pos pins s σ H Q I q => p.run pos pins s σ H Q I (i _ _ _ q)⟩
theorem PI.imp {tg e : Expr} {t t' : TI} (p : PI X tg e t) (i : ∀ σ H Q, t' σ H Q → t σ H Q) : PI X tg e t' := ⟨fun pins s σ H Q I q => p.run pins s σ H Q I (i _ _ _ q)⟩
theorem PS.imp {st : Stmt} {t t' : TS} (p : PS X st t) (i : ∀ D σ H, t' D σ H → t D σ H) : PS X st t' := ⟨fun pins s σ H D I q => p.run pins s σ H D I (i _ _ _ q)⟩
theorem PSs.imp {st : List Stmt} {t t' : TS} (p : PSs X st t) (i : ∀ D σ H, t' D σ H → t D σ H) : PSs X st t' := ⟨fun pins s σ H D I q => p.run pins s σ H D I (i _ _ _ q)⟩
/-! tests -/
theorem tru_bl (b : Bool) (h : Hpp) : tru (R.ok (.bl b) h) = .ok b h := rfl
theorem tru_not (a : E) : tru (ev cal (.not a) ρ h) = (tru (ev cal a ρ h)).bind fun b h => .ok (!b) h := by
  simp only [ev]
  cases tru (ev cal a ρ h) <;> rfl
theorem tru_and (a b : E) : tru (ev cal (.and a b) ρ h) = (tru (ev cal a ρ h)).bind fun k h => if k = true then tru (ev cal b ρ h) else .ok false h := by
  simp only [ev, tru]
  cases ev cal a ρ h with
  | ok x h1 =>
    simp only [R.bind_ok]
    cases e : truthy x h1 with
    | none => rfl
    | some k => cases k with
      | true => rfl
      | false => simp [R.bind, e, opt]
  | er c h1 => rfl
  | no => rfl
theorem tru_or (a b : E) : tru (ev cal (.or a b) ρ h) = (tru (ev cal a ρ h)).bind fun k h => if k = true then .ok true h else tru (ev cal b ρ h) := by
  simp only [ev, tru]
  cases ev cal a ρ h with
  | ok x h1 =>
    simp only [R.bind_ok]
    cases e : truthy x h1 with
    | none => rfl
    | some k => cases k with
      | true => simp [R.bind, e, opt]
      | false => rfl
  | er c h1 => rfl
  | no => rfl
theorem rT_plain {e : E} {Qb : Bool → Hp → Prop} (r : rT G xa cal e W σ H Qb) : rE G xa cal e W σ H fun x H' => ∃ k, TruV G.K x H' k ∧ Qb k H' := by
  obtain ⟨F, ι, h, ρ, r, en, P⟩ := r
  refine rE_of r en P.bind fun d h1 v H1 ι1 o g r1 s1 => ?_
  obtain ⟨k, e, o⟩ := Post.opt o
  exact ⟨k, tru_of r1 s1 e, o H1 ι1 g r1⟩
theorem pw_bool {o : BoolOp} {vs : List Expr} {pos : Pos} {t : TT} (p : PT X (.BoolOp o vs pos) t) : PW X (.BoolOp o vs pos) t := ⟨fun _ pins s σ H Q I q => p.run pins s σ H Q I q⟩
theorem pw_tail {o : BoolOp} {y : Expr} {r : List Expr} {pos : Pos} {t : TT} (p : PT X (tailB o pos (y :: r)) t) : PW X (.BoolOp o (y :: r) pos) t := by
  cases r with
  | nil => cases o with
    | And => exact pw_and1 p
    | Or => exact pw_or1 p
  | cons z r => exact pw_bool p
theorem pe_tail {o : BoolOp} {y : Expr} {r : List Expr} {pos : Pos} {t : TE} (p : PE X (tailB o pos (y :: r)) t) : PE X (.BoolOp o (y :: r) pos) t := by
  cases r with
  | nil => exact pe_one p
  | cons z r => exact p
end
end PL
end
section
set_option Elab.async false
set_option linter.all false
set_option maxRecDepth 100000
set_option maxHeartbeats 1000000
/-! PLS6: the cases, one by one. -/
namespace PL
open PySem PySem.Spec PyProof.Rows L2
/-! ### methods of lists -/
def rMt (G : Ge) (m : Mt) : V → List V → Hp → VK → Prop := fun x xs H Q => ∃ F ι h a ds E, Rel G F ι H h ∧ VR G F ι H a x ∧ VRs G F ι H ds xs ∧ Post (doMt m a ds h) (okp G F ι H Q) E
section
variable {X : Cx} {G : Ge} {F : Addr → Prop} {ι : List Addr} {H : Hp} {h : Hpp} {Q : VK} {E : Nat → Hpp → Prop}
theorem set_ok {n : Nat} {p : Addr} {xs : List D} {vs : List V} {d : D} {v : V} (r : Rel G F ι H h) (i : ι[n]? = some p) (s : VRs G F ι H xs vs) (rv : VR G F ι H d v) (P : Post (R.ok d (h.set n (.lst xs))) (okp G F ι H Q) E) : Q v (L2.upd H p (.lst vs)) := by
  obtain ⟨r', g⟩ := r.set i s
  exact P v _ ι g r' (VR.up g r.cellsOk rv)
theorem refOf_eq {o : D} {n : Nat} {xs : List D} (e : refOf o h = some (n, xs)) : o = .ref n ∧ h[n]? = some (.lst xs) := by
  unfold refOf at e
  split at e
  · split at e
    · cases e; exact ⟨rfl, by assumption⟩
    · cases e
  · cases e
theorem ref_ok {o : D} {v : V} {n : Nat} {xs : List D} (r : Rel G F ι H h) (rv : VR G F ι H o v) (e : refOf o h = some (n, xs)) : ∃ p vs, v = .ref p ∧ ι[n]? = some p ∧ H p = some (.lst vs) ∧ VRs G F ι H xs vs := by
  obtain ⟨rfl, hn⟩ := refOf_eq e
  obtain ⟨p, rfl, hi⟩ := rv
  obtain ⟨vs, t, w⟩ := r.cells n p _ hi hn
  exact ⟨p, vs, rfl, hi, t, w⟩
theorem ixN_rng {n : Nat} {i : Int} {k : Nat} (h : ixN n i = some k) : seqIndex? i n = some k ∧ -(n : Int) ≤ i ∧ i < n := by
  have e : L2.ixN n i = some k := h
  have q := L2.ixN_seq e
  exact ⟨q.1, q.2.2⟩
theorem lst_line {pins : List (Addr × Obj)} {σ : L2.St} {s : Shared} {p : Addr} {vs : List V} (I : Inv X pins σ H s) (t : H p = some (.lst vs)) : vs.length ≤ line := by
  have := (I.lstM t).1
  rw [line_eq] at this; exact this
theorem mt_append' (fa : Nat → Addr) (nf nx : Nat) : MtR X "list.append" (rMt ⟨X.K, fa, nf, nx⟩ .append) := by
  intro pins s σ H x xs v us Q I rx rs ⟨F, ι, h, a, ds, E, r, ra, rds, P⟩
  refine mt_append pins s σ H x xs v us Q I rx rs ?_
  show rAppend x xs H Q
  change Post (mtAppend a ds h) _ _ at P
  unfold mtAppend at P
  split at P
  · rename_i d n ys e
    obtain ⟨p, vs, rfl, hi, t, w⟩ := ref_ok r ra e
    obtain ⟨u, rfl, ru⟩ := VRs.one_of rds
    split at P
    · rename_i c
      exact ⟨p, vs, u, rfl, rfl, t, by rw [VRs.length w, line_eq]; exact c, set_ok (d := .non) (v := .non) r hi (w.append (VRs.one ru)) rfl P⟩
    · exact P.elim
  · exact P.elim
theorem mt_extend' (fa : Nat → Addr) (nf nx : Nat) : MtR X "list.extend" (rMt ⟨X.K, fa, nf, nx⟩ .extend) := by
  intro pins s σ H x xs v us Q I rx rs ⟨F, ι, h, a, ds, E, r, ra, rds, P⟩
  refine mt_extend pins s σ H x xs v us Q I rx rs ?_
  show rExtend x xs H Q
  change Post (mtExtend a ds h) _ _ at P
  unfold mtExtend at P
  split at P
  · rename_i d n ys e
    obtain ⟨p, vs, rfl, hi, t, w⟩ := ref_ok r ra e
    obtain ⟨u, rfl, ru⟩ := VRs.one_of rds
    split at P
    · rename_i zs e2
      obtain ⟨b, ws, rfl, t2, w2⟩ := VR.lst r ru e2
      split at P
      · rename_i c
        exact ⟨p, b, vs, ws, rfl, rfl, t, t2, by rw [VRs.length w, VRs.length w2, line_eq]; exact c, set_ok (d := .non) (v := .non) r hi (w.append w2) rfl P⟩
      · exact P.elim
    · exact P.elim
  · exact P.elim
theorem VRs.dropLast {ds : List D} {vs : List V} (r : VRs G F ι H ds vs) : VRs G F ι H ds.dropLast vs.dropLast := by
  rw [List.dropLast_eq_take, List.dropLast_eq_take, VRs.length r]
  exact r.take _
theorem mt_pop' (fa : Nat → Addr) (nf nx : Nat) : MtR X "list.pop" (rMt ⟨X.K, fa, nf, nx⟩ .pop) := by
  intro pins s σ H x xs v us Q I rx rs ⟨F, ι, h, a, ds, E, r, ra, rds, P⟩
  change Post (mtPop a ds h) _ _ at P
  unfold mtPop at P
  split at P
  · rename_i n ys e
    obtain ⟨p, vs, rfl, hi, t, w⟩ := ref_ok r ra e
    cases (show xs = [] from rds)
    split at P
    · rename_i d e2
      obtain ⟨u, e3, ru⟩ := w.get e2
      exact mt_pop pins s σ H _ _ v us Q I rx rs ⟨p, vs, u, rfl, rfl, t, by rw [VRs.length w]; exact e3, set_ok r hi w.dropLast ru P⟩
    · exact P.elim
  · rename_i i n ys e
    obtain ⟨p, vs, rfl, hi, t, w⟩ := ref_ok r ra e
    obtain ⟨u, rfl, ru⟩ := VRs.one_of rds
    cases (show u = V.int i from ru)
    split at P
    · rename_i k e2
      split at P
      · rename_i d e3
        obtain ⟨u, e4, ru'⟩ := w.get e3
        obtain ⟨q1, q2, q3⟩ := ixN_rng e2
        have l := lst_line I t
        have l2 := VRs.length w
        have hl : line = 16777216 := rfl
        exact mt_popAt pins s σ H _ _ v us Q I rx rs ⟨p, vs, i, k, u, rfl, rfl, t, by omega, by omega, by rw [l2]; exact q1, e4, set_ok r hi (w.eraseIdx k) ru' P⟩
      · exact P.elim
    · exact P.elim
  · exact P.elim
theorem mt_insert' (fa : Nat → Addr) (nf nx : Nat) : MtR X "list.insert" (rMt ⟨X.K, fa, nf, nx⟩ .insert) := by
  intro pins s σ H x xs v us Q I rx rs ⟨F, ι, h, a, ds, E, r, ra, rds, P⟩
  change Post (mtInsert a ds h) _ _ at P
  unfold mtInsert at P
  split at P
  · rename_i i d n ys e
    obtain ⟨p, vs, rfl, hi, t, w⟩ := ref_ok r ra e
    obtain ⟨u1, u2, rfl, r1, r2⟩ := VRs.two_of rds
    cases (show u1 = V.int i from r1)
    split at P
    · rename_i c
      exact mt_insert pins s σ H _ _ v us Q I rx rs ⟨p, vs, i, u2, rfl, rfl, t, by rw [VRs.length w, line_eq]; exact c.1, c.2.1, c.2.2, set_ok (d := .non) (v := .non) r hi (((w.take _).append (VRs.one r2)).append (w.drop _)) rfl P⟩
    · exact P.elim
  · exact P.elim
theorem findIdx_eqv {d : D} (fd : fit 60 d = true) : ∀ {ys : List D} {k : Nat}, fitL 59 ys = true → (ys.findIdx? fun z => deq z d) = some k →
    ∃ z, (toPDs ys)[k]? = some z ∧ PyData.eqv z (toPD d) = true ∧ ∀ (m : Nat) (z' : PyData), m < k → (toPDs ys)[m]? = some z' → PyData.eqv z' (toPD d) = false
  | [], k, _, e => by simp at e
  | y :: ys, k, f, e => by
    rw [fitL, Bool.and_eq_true] at f
    have ey := deq_eqv 59 60 y d f.1 fd
    rw [List.findIdx?_cons] at e
    rw [toPDs]
    cases c : deq y d with
    | true =>
      rw [c, if_pos rfl] at e
      cases e
      exact ⟨toPD y, rfl, by rw [← ey]; exact c, fun m z' hm => absurd hm (Nat.not_lt_zero _)⟩
    | false =>
      rw [c, if_neg (by decide)] at e
      cases e2 : ys.findIdx? fun z => deq z d with
      | none => rw [e2] at e; cases e
      | some j =>
        rw [e2] at e
        have ek : j + 1 = k := by simpa using e
        subst ek
        obtain ⟨z, h1, h2, h3⟩ := findIdx_eqv fd f.2 e2
        refine ⟨z, h1, h2, fun m z' hm hz => ?_⟩
        cases m with
        | zero => cases hz; rw [← ey]; exact c
        | succ m => exact h3 m z' (by omega) hz
theorem mt_index' (fa : Nat → Addr) (nf nx : Nat) (hu : X.A.units + 65 < cLine) : MtR X "list.index" (rMt ⟨X.K, fa, nf, nx⟩ .index) := by
  intro pins s σ H x xs v us Q I rx rs ⟨F, ι, h, a, ds, E, r, ra, rds, P⟩
  change Post (mtIndex a ds h) _ _ at P
  unfold mtIndex at P
  split at P
  · rename_i d
    obtain ⟨u, rfl, ru⟩ := VRs.one_of rds
    by_cases c : (fit 60 (res d h) && fit 60 (res a h)) = true
    · rw [if_pos c] at P
      rw [Bool.and_eq_true] at c
      have dd := dp_res r c.1 ru
      have da := dp_res r c.2 ra
      have sd := fit_shaped c.1
      have sa := fit_shaped c.2
      have f2 := c.2
      split at P
      · rename_i ys e
        rw [e, fit] at f2
        rw [e, toPD] at da sa
        split at P
        · rename_i k ek
          obtain ⟨z, h1, h2, h3⟩ := findIdx_eqv c.1 f2 ek
          have da' := da
          cases da' with
          | lst hs ha => exact mt_indexD hu pins s σ H _ _ v us Q I rx rs ⟨_, u, _, _, k, z, rfl, rfl, da, dd, sa, sd, h1, h2, h3, same_ok (d := .int k) (v := .int k) r P rfl⟩
        · exact P.elim
      · exact P.elim
    · rw [if_neg c] at P; exact P.elim
  · exact P.elim
/-! ### isinstance -/
def typS : D → String
  | .non => "NoneType"
  | .bl _ => "bool"
  | .int _ => "int"
  | .str _ => "str"
  | .tup _ => "tuple"
  | _ => "list"
def tyS : Ty → String
  | .int => "int"
  | .bool => "bool"
  | .str => "str"
  | .tuple => "tuple"
  | .list => "list"
theorem typ_ok {d : D} {v : V} (r : Rel G F ι H h) (rv : VR G F ι H d v) (ok : tyOk d h = true) : TyX G.K H v (.type (typS d)) := by
  cases d with
  | non => cases (show v = V.non from rv); exact .base .non
  | bl b => cases (show v = V.bl b from rv); exact .base (.bl b)
  | int b => cases (show v = V.int b from rv); exact .base (.int b)
  | str b => cases (show v = V.str b from rv); exact .base (.str b)
  | tup xs =>
    obtain ⟨a, vs, rfl, t, u⟩ := rv
    rcases t with (t | ⟨o, t⟩) | ⟨o, its, n, t, c, _⟩
    · exact .base (.tup t)
    · exact .fTuple t
    · exact .kTuple t c
  | fl xs =>
    obtain ⟨a, vs, rfl, ⟨t, _⟩, u⟩ := rv
    exact .base (.lst t)
  | ref n =>
    obtain ⟨a, rfl, i⟩ := rv
    unfold tyOk at ok
    simp only at ok
    split at ok
    · rename_i hn
      obtain ⟨vs, t, w⟩ := r.cells n a _ i hn
      exact .base (.lst t)
    · cases ok
  | fn _ => cases ok
  | sc _ => cases ok
theorem kit_tt (d : D) (t : Ty) (ok : tyOk d h = true) : kitB (typS d) (tyS t) = some (isTy d h t) := by
  cases d with
  | ref n =>
    unfold tyOk at ok
    simp only at ok
    split at ok
    · rename_i hn
      cases t <;> simp only [isTy, hn, typS, tyS] <;> decide +kernel
    · cases ok
  | fn _ => cases ok
  | sc _ => cases ok
  | _ => cases t <;> simp only [isTy, typS, tyS] <;> decide +kernel
theorem kit_any {K : PySem.W.Frag} (d : D) (ok : tyOk d h = true) : ∀ ts : List Ty, PySem.W.kitAny K (.type (typS d)) (ts.map fun t => Value.type (tyS t)) = some (ts.any fun t => isTy d h t)
  | [] => kitAny_nil
  | t :: ts => by
    refine kitAny_cons (kit_ty (kit_tt d t ok)) (fun e => ?_) fun e => ?_
    · rw [List.any_cons, e, Bool.false_or]; exact kit_any d ok ts
    · rw [List.any_cons, e, Bool.true_or]
end
end PL
end
section
set_option Elab.async false
set_option linter.all false
set_option maxRecDepth 100000
set_option maxHeartbeats 1000000
/-! PLS7: expressions, case by case. -/
namespace PL
open PySem PySem.Spec PyProof.Rows L2
section
variable {T : Tab} {G : Ge} {xa : Nat → Addr} {cal : Cal} {k : Nat} {N : List Str} {sc : Scope} {fb : Str → Bool} {W : WX} {X : Cx} {F : Addr → Prop} {ι : List Addr} {H : Hp} {h : Hpp} {ρ : List (Option D)} {σ : L2.St} {Q : VK}
theorem Ctx.gl (c : Ctx T G xa cal k N sc fb W X) {x : Str} (h : glC sc x = true) : Gl X x := by
  have h := of_decide_eq_true h
  show X.env.scope.names.lookup x = _
  rw [c.sc]; exact h
theorem Ctx.vis (c : Ctx T G xa cal k N sc fb W X) {x : Str} (h : visC sc x = true) : Vis X.env.scope x := by
  rw [c.sc]; exact visC_ok h
theorem good_is {x : Str} (h : goodName x = true) : (x == ("__debug__" : Str)) = false ∧ (x == ("__classdict__" : Str)) = false ∧ x ≠ "__name__" := by
  unfold goodName at h
  rw [Bool.and_eq_true, Bool.and_eq_true, Bool.not_eq_true', Bool.not_eq_true'] at h
  exact ⟨h.1.1, h.1.2, of_decide_eq_true h.2⟩
theorem glN_is {x y : Str} (h : glN sc x y = true) : x = y ∧ glC sc x = true := by
  unfold glN at h
  rw [Bool.and_eq_true] at h
  exact ⟨of_decide_eq_true h.1, h.2⟩
theorem Ctx.eqK (c : Ctx T G xa cal k N sc fb W X) : (⟨X.K, G.fa, G.nf, G.nx⟩ : Ge) = G := by rw [c.hK]
theorem Ctx.passes (c : Ctx T G xa cal k N sc fb W X) : Passes (L2.CX X.prog X.w) X (fun cls d H => ∀ σ', W cls d σ' H) := passes_call c.takes fun _ _ σ _ q => q σ
theorem snd_cst (c : Ctx T G xa cal k N sc fb W X) {d : D} {p : Expr} (ok : chkCst T sc d p = true) : PE X p (rE G xa cal (.cst d) W) := by
  unfold chkCst at ok
  split at ok
  · rename_i f
    split at ok
    · rename_i x e
      rw [Bool.and_eq_true, Bool.and_eq_true] at ok
      obtain ⟨⟨o1, o2⟩, o3⟩ := ok
      obtain ⟨pos, rfl⟩ := vName_eq e
      exact PE.imp (pe_glob (v := .ref (G.fa f)) (c.gl o2) (c.fnm f x (of_decide_eq_true o1)) rfl (good_is o3).1) fun σ H Q ⟨F, ι, h, ρ, r, en, P⟩ => same_ok r P ⟨rfl, by rw [c.nf]; exact (List.getElem?_eq_some_iff.mp (of_decide_eq_true o1)).1⟩
    · cases ok
  · split at ok
    · rename_i x e
      rw [asConst_eq e]
      obtain ⟨c', j, pos⟩ := x
      simp only at ok ⊢
      split at ok
      · exact PE.imp pe_non fun σ H Q ⟨F, ι, h, ρ, r, en, P⟩ => same_ok r P rfl
      · cases (eq_of_beq ok)
        exact PE.imp pe_bl fun σ H Q ⟨F, ι, h, ρ, r, en, P⟩ => same_ok r P rfl
      · cases (of_decide_eq_true ok)
        exact PE.imp pe_int fun σ H Q ⟨F, ι, h, ρ, r, en, P⟩ => same_ok r P rfl
      · cases (of_decide_eq_true ok)
        exact PE.imp pe_str fun σ H Q ⟨F, ι, h, ρ, r, en, P⟩ => same_ok r P rfl
      · cases ok
    · cases ok
theorem snd_var (c : Ctx T G xa cal k N sc fb W X) {i : Nat} {x : Str} {pos : Pos} (h1 : N[i]? = some x) (h2 : visC sc x = true) (h3 : goodName x = true) : PE X (.Name x pos) (rE G xa cal (.var i) W) :=
  PE.imp (pe_var (by rw [c.hN]; exact h1) (c.vis h2) (good_is h3).1 (good_is h3).2.1) fun σ H Q ⟨F, ι, h, ρ, r, en, P⟩ => by
    simp only [ev] at P
    split at P
    · rename_i d e
      obtain ⟨v, e1, rv⟩ := en.2 i d e
      exact ⟨v, e1, same_ok r P rv⟩
    · exact P.elim
theorem snd_glb (c : Ctx T G xa cal k N sc fb W X) {x : Str} {d : D} {pos : Pos} (h1 : T.cst.lookup x = some d) (h2 : glC sc x = true) (h3 : goodName x = true) : PE X (.Name x pos) (rE G xa cal (.glb x d) W) := by
  obtain ⟨v, u, hm, rv, kc⟩ := c.cst x d h1
  rw [c.hK] at kc
  exact PE.imp (pe_glob (c.gl h2) hm rv (good_is h3).1) fun σ H Q ⟨F, ι, h, ρ, r, en, P⟩ => same_ok r P kc.vr
theorem snd_nil : PA X [] (rA G xa cal .nil W) := PA.imp pa_nil fun σ H Q ⟨F, ι, h, ρ, r, en, P⟩ => P [] H ι Grow.refl r rfl
theorem Post.fromA {r : R (List D)} {Q : List V → Hp → Prop} {ι1 : List Addr} {H1 : Hp} (p : Post r (fun ds h' => ∀ vs H' ι', Grow H ι H' ι' → Rel G F ι' H' h' → VRs G F ι' H' ds vs → Q vs H') (erx G F xa ι H W)) (g : Grow H ι H1 ι1) :
    Post r (fun ds h' => ∀ vs H' ι', Grow H1 ι1 H' ι' → Rel G F ι' H' h' → VRs G F ι' H' ds vs → Q vs H') (erx G F xa ι1 H1 W) :=
  p.imp (fun d h' z v H' ι' g' r' s' => z v H' ι' (g.trans g') r' s') fun c h' z hc H' ι' g' r' => z hc H' ι' (g.trans g') r'
theorem Post.fromT {r : R Bool} {Q : Bool → Hp → Prop} {ι1 : List Addr} {H1 : Hp} (p : Post r (okg G F ι H fun b H' _ => Q b H') (erx G F xa ι H W)) (g : Grow H ι H1 ι1) : Post r (okg G F ι1 H1 fun b H' _ => Q b H') (erx G F xa ι1 H1 W) :=
  p.imp (fun d h' z H' ι' g' r' => z H' ι' (g.trans g') r') fun c h' z hc H' ι' g' r' => z hc H' ι' (g.trans g') r'
theorem snd_cons {e : E} {es : Es} {p : Expr} {ps : List Expr} (pl : plain p = true) (he : PE X p (rE G xa cal e W)) (hs : PA X ps (rA G xa cal es W)) : PA X (p :: ps) (rA G xa cal (.cons e es) W) :=
  PA.imp (pa_cons he hs (plain_star pl _ _)) fun σ H Q ⟨F, ι, h, ρ, r, en, P⟩ => by
    simp only [evs] at P
    refine rE_of r en P.bind fun d h1 v H1 ι1 P1 g1 r1 s1 => ?_
    refine rA_of r1 (en.up g1 r.cellsOk) (Post.fromA P1 g1).bind fun ds h2 vs H2 ι2 P2 g2 r2 s2 => ?_
    exact P2 (v :: vs) H2 ι2 g2 r2 ⟨v, vs, rfl, s1.up g2 r1.cellsOk, s2⟩
theorem evs_len : ∀ (es : Es) (ps : List Expr), chkEs T N es sc fb ps = true → ∀ {ρ : List (Option D)} {h : Hpp}, Post (evs cal es ρ h) (fun ds _ => ds.length = ps.length) (fun _ _ => True) ∨ evs cal es ρ h = .no
  | .nil, ps, ok, ρ, h => by
    cases ps with
    | nil => exact .inl rfl
    | cons _ _ => simp [chkEs] at ok
  | .cons e es, ps, ok, ρ, h => by
    cases ps with
    | nil => simp [chkEs] at ok
    | cons p ps =>
      simp only [chkEs, Bool.and_eq_true] at ok
      simp only [evs]
      cases ev cal e ρ h with
      | ok d h1 =>
        simp only [R.bind_ok]
        rcases evs_len es ps ok.2 (ρ := ρ) (h := h1) with q | q
        · left
          cases e2 : evs cal es ρ h1 with
          | ok ds h2 =>
            rw [e2] at q
            have q : ds.length = ps.length := q
            show (d :: ds).length = (p :: ps).length
            simp [q]
          | er c h2 => exact trivial
          | no => rw [e2] at q; exact q.elim
        · right; rw [q]; rfl
      | er c h1 => exact .inl trivial
      | no => exact .inr rfl
theorem snd_tup {es : Es} {ps : List Expr} {j : Nat} {pos : Pos} (hl : ps.length ≤ 1000) (ok : chkEs T N es sc fb ps = true) (hs : PA X ps (rA G xa cal es W)) : PE X (.Tuple ps j pos) (rE G xa cal (.tup es) W) :=
  PE.imp (pe_tup hs) fun σ H Q ⟨F, ι, h, ρ, r, en, P⟩ => by
    simp only [ev] at P
    have P := P.bind
    rcases evs_len (cal := cal) es ps ok (ρ := ρ) (h := h) with q | q
    · have P2 : Post (evs cal es ρ h) (fun a h => Post (R.ok (D.tup a) h) (okp G F ι H Q) (erx G F xa ι H W) ∧ a.length = ps.length) (erx G F xa ι H W) := by
        cases e : evs cal es ρ h with
        | ok ds h1 => rw [e] at P q; exact ⟨P, q⟩
        | er c h1 => rw [e] at P; exact P
        | no => rw [e] at P; exact P
      refine rA_of r en P2 fun ds h1 vs H1 ι1 P1 g1 r1 s1 => ⟨?_, fun p n => tup_ok r1 s1 (Post.from P1.1 g1) n⟩
      rw [VRs.length s1, P1.2, line_eq]
      have : line = 16777216 := rfl
      omega
    · rw [q] at P; exact P.elim
theorem snd_lst {th : Bool} {es : Es} {ps : List Expr} {pos : Pos} (hl : ps.length ≤ 1000) (ok : chkEs T N es sc fb ps = true) (hs : PA X ps (rA G xa cal es W)) : PE X (.List ps pos) (rE G xa cal (.lst th es) W) :=
  PE.imp (pe_lst hs) fun σ H Q ⟨F, ι, h, ρ, r, en, P⟩ => by
    simp only [ev] at P
    have P := P.bind
    rcases evs_len (cal := cal) es ps ok (ρ := ρ) (h := h) with q | q
    · have P2 : Post (evs cal es ρ h) (fun a h => Post (new th a h) (okp G F ι H Q) (erx G F xa ι H W) ∧ a.length = ps.length) (erx G F xa ι H W) := by
        cases e : evs cal es ρ h with
        | ok ds h1 => rw [e] at P q; exact ⟨P, q⟩
        | er c h1 => rw [e] at P; exact P
        | no => rw [e] at P; exact P
      refine rA_of r en P2 fun ds h1 vs H1 ι1 P1 g1 r1 s1 => ⟨?_, fun p n => new_ok r1 s1 (Post.from P1.1 g1) n⟩
      rw [VRs.length s1, P1.2, line_eq]
      have : line = 16777216 := rfl
      omega
    · rw [q] at P; exact P.elim
theorem snd_bin (c : Ctx T G xa cal k N sc fb W X) {op : Bop} {th : Bool} {a b : E} {x y : Expr} {pos : Pos} (ha : PE X x (rE G xa cal a W)) (hb : PE X y (rE G xa cal b W)) : PE X (.BinOp x (pyOp op) y pos) (rE G xa cal (.bin th op a b) W) :=
  PE.imp (pe_op (op_bop G.fa G.nf G.nx op th) ha hb) fun σ H Q ⟨F, ι, h, ρ, r, en, P⟩ => by
    rw [c.eqK]
    simp only [ev] at P
    refine rE_of r en P.bind fun d1 h1 v1 H1 ι1 P1 g1 r1 s1 => ?_
    refine rE_of r1 (en.up g1 r.cellsOk) (Post.from P1 g1).bind fun d2 h2 v2 H2 ι2 P2 g2 r2 s2 => ?_
    exact ⟨F, ι2, h2, d1, d2, _, r2, s1.up g2 r1.cellsOk, s2, Post.from P2 g2⟩
theorem snd_neg {a : E} {x : Expr} {pos : Pos} (ha : PE X x (rE G xa cal a W)) : PE X (.UnaryOp .USub x pos) (rE G xa cal (.neg a) W) :=
  PE.imp (pe_un un_neg ha) fun σ H Q ⟨F, ι, h, ρ, r, en, P⟩ => by
    simp only [ev] at P
    refine rE_of r en P.bind fun d1 h1 v1 H1 ι1 P1 g1 r1 s1 => ?_
    split at P1
    · rename_i i
      exact ⟨i, s1, same_ok r1 (Post.from P1 g1) rfl⟩
    · exact P1.elim
theorem snd_not {a : E} {x : Expr} {pos : Pos} (c : Ctx T G xa cal k N sc fb W X) (ha : PE X x (rE G xa cal a W)) : PE X (.UnaryOp .Not x pos) (rE G xa cal (.not a) W) :=
  PE.imp (pe_notT ha) fun σ H Q ⟨F, ι, h, ρ, r, en, P⟩ => by
    rw [c.hK]
    simp only [ev, tru] at P
    refine rE_of r en P.bind.bind fun d1 h1 v1 H1 ι1 P1 g1 r1 s1 => ?_
    obtain ⟨b, e, P2⟩ := Post.opt P1
    exact ⟨b, tru_of r1 s1 e, same_ok r1 (Post.from P2 g1) rfl⟩
theorem snd_and {a b : E} {x y : Expr} {rr : List Expr} {pos : Pos} (c : Ctx T G xa cal k N sc fb W X) (ha : PE X x (rE G xa cal a W)) (hb : PE X (tailB .And pos (y :: rr)) (rE G xa cal b W)) : PE X (.BoolOp .And (x :: y :: rr) pos) (rE G xa cal (.and a b) W) :=
  PE.imp (pe_andT ha (pe_tail hb)) fun σ H Q ⟨F, ι, h, ρ, r, en, P⟩ => by
    rw [c.hK]
    simp only [ev] at P
    refine rE_of r en P.bind fun d1 h1 v1 H1 ι1 P1 g1 r1 s1 => ?_
    obtain ⟨b, e, P2⟩ := Post.opt P1.bind
    refine ⟨b, tru_of r1 s1 e, ?_⟩
    cases b with
    | true => exact ⟨F, ι1, h1, ρ, r1, en.up g1 r.cellsOk, Post.from P2 g1⟩
    | false => exact same_ok r1 (Post.from P2 g1) s1
theorem snd_or {a b : E} {x y : Expr} {rr : List Expr} {pos : Pos} (c : Ctx T G xa cal k N sc fb W X) (ha : PE X x (rE G xa cal a W)) (hb : PE X (tailB .Or pos (y :: rr)) (rE G xa cal b W)) : PE X (.BoolOp .Or (x :: y :: rr) pos) (rE G xa cal (.or a b) W) :=
  PE.imp (pe_orT ha (pe_tail hb)) fun σ H Q ⟨F, ι, h, ρ, r, en, P⟩ => by
    rw [c.hK]
    simp only [ev] at P
    refine rE_of r en P.bind fun d1 h1 v1 H1 ι1 P1 g1 r1 s1 => ?_
    obtain ⟨b, e, P2⟩ := Post.opt P1.bind
    refine ⟨b, tru_of r1 s1 e, ?_⟩
    cases b with
    | true => exact same_ok r1 (Post.from P2 g1) s1
    | false => exact ⟨F, ι1, h1, ρ, r1, en.up g1 r.cellsOk, Post.from P2 g1⟩
theorem cop_red {op : Cop} {a b : E} (r : Rel G F ι H h) (en : EnvR G F ι H ρ σ) (P : Post (ev cal (.cmp op a b) ρ h) (okp G F ι H Q) (erx G F xa ι H W)) : tOp (rCop G op) (rE G xa cal a W) (rE G xa cal b W) σ H Q := by
  simp only [ev] at P
  refine rE_of r en P.bind fun d1 h1 v1 H1 ι1 P1 g1 r1 s1 => ?_
  refine rE_of r1 (en.up g1 r.cellsOk) (Post.from P1 g1).bind fun d2 h2 v2 H2 ι2 P2 g2 r2 s2 => ?_
  obtain ⟨b, e, P3⟩ := Post.opt P2.bind
  exact ⟨F, ι2, h2, d1, d2, b, r2, s1.up g2 r1.cellsOk, s2, e, same_ok r2 (Post.from P3 g2) rfl⟩
theorem snd_cmp (c : Ctx T G xa cal k N sc fb W X) {op : Cop} {a b : E} {x y : Expr} {pos : Pos} (pl : plain y = true) (ha : PE X x (rE G xa cal a W)) (hb : PE X y (rE G xa cal b W)) : PE X (.Compare x [pyCop op] [y] pos) (rE G xa cal (.cmp op a b) W) :=
  PE.imp (pe_cmpR (op_cop G.fa G.nf G.nx c.room.units op) ha hb (plain_behind pl _)) fun σ H Q ⟨F, ι, h, ρ, r, en, P⟩ => by
    rw [c.eqK]
    exact cop_red r en P
theorem tru_bl_of {e : E} {Qb : Bool → Hp → Prop} (r : R D) : Post (tru r) (okg G F ι H fun b H' _ => Qb b H') (erx G F xa ι H W) → (∀ d h', r = .ok d h' → ∃ b, d = .bl b) → Post r (okp G F ι H fun x H' => ∃ k, x = V.bl k ∧ Qb k H') (erx G F xa ι H W) := fun P z => by
  cases r with
  | ok d h' =>
    obtain ⟨b, rfl⟩ := z d h' rfl
    exact fun v H' ι' g r s => ⟨b, s, P H' ι' g r⟩
  | er c h' => exact P
  | no => exact P
theorem cmp_bl {op : Cop} {a b : E} {d : D} {h' : Hpp} (e : ev cal (.cmp op a b) ρ h = .ok d h') : ∃ b, d = .bl b := by
  simp only [ev] at e
  cases e1 : ev cal a ρ h with
  | ok d1 h1 =>
    rw [e1, R.bind_ok] at e
    cases e2 : ev cal b ρ h1 with
    | ok d2 h2 =>
      rw [e2, R.bind_ok] at e
      cases e3 : cop op d1 d2 h2 with
      | some k => rw [e3] at e; cases e; exact ⟨_, rfl⟩
      | none => rw [e3] at e; cases e
    | er c h2 => rw [e2] at e; cases e
    | no => rw [e2] at e; cases e
  | er c h1 => rw [e1] at e; cases e
  | no => rw [e1] at e; cases e
theorem snd_cmpT (c : Ctx T G xa cal k N sc fb W X) {op : Cop} {a b : E} {x y : Expr} {pos : Pos} (pl : plain y = true) (ha : PE X x (rE G xa cal a W)) (hb : PE X y (rE G xa cal b W)) : PT X (.Compare x [pyCop op] [y] pos) (rT G xa cal (.cmp op a b) W) :=
  PT.imp (pt_cmpR (op_cop G.fa G.nf G.nx c.room.units op) ha hb (plain_behind pl _)) fun σ H Q ⟨F, ι, h, ρ, r, en, P⟩ => by
    rw [c.eqK]
    exact cop_red r en (tru_bl_of (e := .cmp op a b) _ P fun d h' e => cmp_bl e)
theorem inn_red {ng : Bool} {a b : E} (r : Rel G F ι H h) (en : EnvR G F ι H ρ σ) (P : Post (ev cal (.inn ng a b) ρ h) (okp G F ι H Q) (erx G F xa ι H W)) : tOp (rInn G ng) (rE G xa cal a W) (rE G xa cal b W) σ H Q := by
  simp only [ev] at P
  refine rE_of r en P.bind fun d1 h1 v1 H1 ι1 P1 g1 r1 s1 => ?_
  refine rE_of r1 (en.up g1 r.cellsOk) (Post.from P1 g1).bind fun d2 h2 v2 H2 ι2 P2 g2 r2 s2 => ?_
  obtain ⟨b, e, P3⟩ := Post.opt P2.bind
  exact ⟨F, ι2, h2, d1, d2, b, r2, s1.up g2 r1.cellsOk, s2, e, same_ok r2 (Post.from P3 g2) rfl⟩
theorem snd_inn (c : Ctx T G xa cal k N sc fb W X) {ng : Bool} {a b : E} {x y : Expr} {pos : Pos} (pl : plain y = true) (ha : PE X x (rE G xa cal a W)) (hb : PE X y (rE G xa cal b W)) : PE X (.Compare x [if ng then .NotIn else .In] [y] pos) (rE G xa cal (.inn ng a b) W) :=
  PE.imp (pe_cmpR (op_inn G.fa G.nf G.nx (by have := c.room.un; omega) ng) ha hb (plain_behind pl _)) fun σ H Q ⟨F, ι, h, ρ, r, en, P⟩ => by
    rw [c.eqK]
    exact inn_red r en P
theorem inn_bl {ng : Bool} {a b : E} {d : D} {h' : Hpp} (e : ev cal (.inn ng a b) ρ h = .ok d h') : ∃ b, d = .bl b := by
  simp only [ev] at e
  cases e1 : ev cal a ρ h with
  | ok d1 h1 =>
    rw [e1, R.bind_ok] at e
    cases e2 : ev cal b ρ h1 with
    | ok d2 h2 =>
      rw [e2, R.bind_ok] at e
      cases e3 : inD d1 d2 h2 with
      | some k => rw [e3] at e; cases e; exact ⟨_, rfl⟩
      | none => rw [e3] at e; cases e
    | er c h2 => rw [e2] at e; cases e
    | no => rw [e2] at e; cases e
  | er c h1 => rw [e1] at e; cases e
  | no => rw [e1] at e; cases e
theorem snd_innT (c : Ctx T G xa cal k N sc fb W X) {ng : Bool} {a b : E} {x y : Expr} {pos : Pos} (pl : plain y = true) (ha : PE X x (rE G xa cal a W)) (hb : PE X y (rE G xa cal b W)) : PT X (.Compare x [if ng then .NotIn else .In] [y] pos) (rT G xa cal (.inn ng a b) W) :=
  PT.imp (pt_cmpR (op_inn G.fa G.nf G.nx (by have := c.room.un; omega) ng) ha hb (plain_behind pl _)) fun σ H Q ⟨F, ι, h, ρ, r, en, P⟩ => by
    rw [c.eqK]
    exact inn_red r en (tru_bl_of (e := .inn ng a b) _ P fun d h' e => inn_bl e)
theorem isN_red {ng : Bool} {a : E} (r : Rel G F ι H h) (en : EnvR G F ι H ρ σ) (P : Post (ev cal (.isN ng a) ρ h) (okp G F ι H Q) (erx G F xa ι H W)) : tOp (fun x y H Q => y = V.non ∧ Q (.bl (decide (x = V.non) != ng)) H) (rE G xa cal a W) (tC .non) σ H Q := by
  simp only [ev] at P
  refine rE_of r en P.bind fun d1 h1 v1 H1 ι1 P1 g1 r1 s1 => ⟨rfl, ?_⟩
  have e : decide (d1 = D.non) = decide (v1 = V.non) := by
    cases d1 with
    | non => cases (show v1 = V.non from s1); rfl
    | bl _ => cases (show v1 = V.bl _ from s1); simp
    | int _ => cases (show v1 = V.int _ from s1); simp
    | str _ => cases (show v1 = V.str _ from s1); simp
    | tup _ => obtain ⟨a, vs, rfl, _⟩ := s1; simp
    | fl _ => obtain ⟨a, vs, rfl, _⟩ := s1; simp
    | ref _ => obtain ⟨a, rfl, _⟩ := s1; simp
    | fn _ => cases (show v1 = V.ref _ from s1.1); simp
    | sc _ => obtain ⟨a, rfl, _⟩ := s1; simp
  rw [← e]
  exact same_ok r1 (Post.from P1 g1) rfl
theorem op_isNg (ng : Bool) : OpR X (compareOp (if ng then .IsNot else .Is)) (fun x y H Q => y = V.non ∧ Q (.bl (decide (x = V.non) != ng)) H) := by
  cases ng with
  | false =>
    intro pins s σ H x y v u Q I rx ry ⟨e, q⟩
    exact op_isN pins s σ H x y v u Q I rx ry ⟨e, by rw [Bool.bne_false] at q; exact q⟩
  | true =>
    intro pins s σ H x y v u Q I rx ry ⟨e, q⟩
    exact op_notN pins s σ H x y v u Q I rx ry ⟨e, by rw [Bool.bne_true] at q; exact q⟩
theorem snd_isN {ng : Bool} {a : E} {x : Expr} {j : Nat} {q pos : Pos} (ha : PE X x (rE G xa cal a W)) : PE X (.Compare x [if ng then .IsNot else .Is] [.Constant .none j q] pos) (rE G xa cal (.isN ng a) W) :=
  PE.imp (pe_cmpR (op_isNg ng) ha pe_non rfl) fun σ H Q ⟨F, ι, h, ρ, r, en, P⟩ => isN_red r en P
theorem isN_bl {ng : Bool} {a : E} {d : D} {h' : Hpp} (e : ev cal (.isN ng a) ρ h = .ok d h') : ∃ b, d = .bl b := by
  simp only [ev] at e
  cases e1 : ev cal a ρ h with
  | ok d1 h1 => rw [e1] at e; cases e; exact ⟨_, rfl⟩
  | er c h1 => rw [e1] at e; cases e
  | no => rw [e1] at e; cases e
theorem snd_isNT {ng : Bool} {a : E} {x : Expr} {j : Nat} {q pos : Pos} (ha : PE X x (rE G xa cal a W)) : PT X (.Compare x [if ng then .IsNot else .Is] [.Constant .none j q] pos) (rT G xa cal (.isN ng a) W) :=
  PT.imp (pt_cmpR (op_isNg ng) ha pe_non rfl) fun σ H Q ⟨F, ι, h, ρ, r, en, P⟩ => isN_red r en (tru_bl_of (e := .isN ng a) _ P fun d h' e => isN_bl e)
theorem snd_ite {cc a b : E} {x y z : Expr} {pos : Pos} (hc : PT X x (rT G xa cal cc W)) (ha : PE X y (rE G xa cal a W)) (hb : PE X z (rE G xa cal b W)) : PE X (.IfExp x y z pos) (rE G xa cal (.ite cc a b) W) :=
  PE.imp (pe_ifExp hc ha hb) fun σ H Q ⟨F, ι, h, ρ, r, en, P⟩ => by
    simp only [ev] at P
    refine rT_of r en P.bind fun d1 h1 H1 ι1 P1 g1 r1 => ?_
    cases d1 with
    | true => exact ⟨F, ι1, h1, ρ, r1, en.up g1 r.cellsOk, Post.from P1 g1⟩
    | false => exact ⟨F, ι1, h1, ρ, r1, en.up g1 r.cellsOk, Post.from P1 g1⟩
theorem snd_notT {a : E} {x : Expr} {pos : Pos} (ha : PT X x (rT G xa cal a W)) : PT X (.UnaryOp .Not x pos) (rT G xa cal (.not a) W) :=
  PT.imp (pt_not ha) fun σ H Q ⟨F, ι, h, ρ, r, en, P⟩ => by
    rw [tru_not] at P
    exact rT_of r en P.bind fun d1 h1 H1 ι1 P1 g1 r1 => P1 H1 ι1 g1 r1
theorem snd_andT {a b : E} {x y : Expr} {rr : List Expr} {pos : Pos} (ha : PT X x (rT G xa cal a W)) (hb : PT X (tailB .And pos (y :: rr)) (rT G xa cal b W)) : PT X (.BoolOp .And (x :: y :: rr) pos) (rT G xa cal (.and a b) W) :=
  PT.imp (pw_and ha (pw_tail hb)).pt fun σ H Q ⟨F, ι, h, ρ, r, en, P⟩ => by
    rw [tru_and] at P
    refine rT_of r en P.bind fun d1 h1 H1 ι1 P1 g1 r1 => ?_
    cases d1 with
    | true => exact ⟨F, ι1, h1, ρ, r1, en.up g1 r.cellsOk, Post.fromT P1 g1⟩
    | false => exact P1 H1 ι1 g1 r1
theorem snd_orT {a b : E} {x y : Expr} {rr : List Expr} {pos : Pos} (ha : PT X x (rT G xa cal a W)) (hb : PT X (tailB .Or pos (y :: rr)) (rT G xa cal b W)) : PT X (.BoolOp .Or (x :: y :: rr) pos) (rT G xa cal (.or a b) W) :=
  PT.imp (pw_or ha (pw_tail hb)).pt fun σ H Q ⟨F, ι, h, ρ, r, en, P⟩ => by
    rw [tru_or] at P
    refine rT_of r en P.bind fun d1 h1 H1 ι1 P1 g1 r1 => ?_
    cases d1 with
    | true => exact P1 H1 ι1 g1 r1
    | false => exact ⟨F, ι1, h1, ρ, r1, en.up g1 r.cellsOk, Post.fromT P1 g1⟩
theorem snd_plainT (c : Ctx T G xa cal k N sc fb W X) {e : E} {p : Expr} (tp : truPlain p = true) (he : PE X p (rE G xa cal e W)) : PT X p (rT G xa cal e W) :=
  PT.imp (pt_truth he (truPlain_is tp _)) fun σ H Q r => by rw [c.hK]; exact rT_plain r
theorem tru_ite (cc a b : E) : tru (ev cal (.ite cc a b) ρ h) = (tru (ev cal cc ρ h)).bind fun k h => if k = true then tru (ev cal a ρ h) else tru (ev cal b ρ h) := by
  simp only [ev]
  cases tru (ev cal cc ρ h) with
  | ok k h1 => cases k <;> rfl
  | er c h1 => rfl
  | no => rfl
theorem snd_iteT {cc a b : E} {x y z : Expr} {pos : Pos} (hc : PT X x (rT G xa cal cc W)) (ha : PT X y (rT G xa cal a W)) (hb : PT X z (rT G xa cal b W)) : PT X (.IfExp x y z pos) (rT G xa cal (.ite cc a b) W) := by
  refine ⟨fun pins s σ H Q I ⟨F, ι, h, ρ, r, en, P⟩ => ?_⟩
  rw [tru_ite] at P
  refine isTrue_IfExp (thn (hc.run pins s σ H (fun k H1 => if k = true then rT G xa cal a W σ H1 Q else rT G xa cal b W σ H1 Q) I (rT_of r en P.bind fun d1 h1 H1 ι1 P1 g1 r1 => ?_)) fun k s1 ⟨H1, I1, q1⟩ => ?_)
  · cases d1 with
    | true => exact ⟨F, ι1, h1, ρ, r1, en.up g1 r.cellsOk, Post.fromT P1 g1⟩
    | false => exact ⟨F, ι1, h1, ρ, r1, en.up g1 r.cellsOk, Post.fromT P1 g1⟩
  · cases k with
    | true => exact ha.run pins s1 σ H1 Q I1 q1
    | false => exact hb.run pins s1 σ H1 Q I1 q1
end
end PL
end
section
set_option Elab.async false
set_option linter.all false
set_option maxRecDepth 100000
set_option maxHeartbeats 1000000
/-! PLS8: calls, methods, items, targets. -/
namespace PL
open PySem PySem.Spec PyProof.Rows L2
section
variable {T : Tab} {G : Ge} {xa : Nat → Addr} {cal : Cal} {k : Nat} {N : List Str} {sc : Scope} {fb : Str → Bool} {W : WX} {X : Cx} {F : Addr → Prop} {ι : List Addr} {H : Hp} {h : Hpp} {ρ : List (Option D)} {σ : L2.St} {Q : VK}
theorem chkEs_plain : ∀ {es : Es} {ps : List Expr}, chkEs T N es sc fb ps = true → plainAll ps = true
  | .nil, ps, h => by
    cases ps with
    | nil => rfl
    | cons _ _ => simp [chkEs] at h
  | .cons e es, ps, h => by
    cases ps with
    | nil => simp [chkEs] at h
    | cons p ps =>
      simp only [chkEs, Bool.and_eq_true] at h
      simp only [plainAll, Bool.and_eq_true]
      exact ⟨h.1.1, chkEs_plain h.2⟩
theorem Post.toSp {r : R D} {ι1 : List Addr} {H1 : Hp} (p : Post r (okp G F ι H Q) (erx G F xa ι H W)) (g : Grow H ι H1 ι1) : Post r (okp G F ι1 H1 Q) (erk G F xa ι1 H1 fun cls d H => ∀ σ', W cls d σ' H) :=
  p.imp (fun d h' z v H' ι' g' r' s' => z v H' ι' (g.trans g') r' s') fun c h' z hc H' ι' g' r' dx σ' => z hc H' ι' (g.trans g') r' dx σ'
theorem snd_call (c : Ctx T G xa cal k N sc fb W X) {f : Nat} {es : Es} {x : Str} {ps : List Expr} {q pos : Pos} (h1 : T.fname[f]? = some x) (h2 : glC sc x = true) (h3 : goodName x = true) (ok : chkEs T N es sc fb ps = true) (hs : PA X ps (rA G xa cal es W)) :
    PE X (.Call (.Name x q) ps [] pos) (rE G xa cal (.call f es) W) := by
  have pl := chkEs_plain ok
  obtain ⟨hf, _⟩ := List.getElem?_eq_some_iff.mp h1
  obtain ⟨hk, fd, pp, Fn, hb⟩ := c.fns f hf
  have imp : ∀ {σ H Q}, rE G xa cal (.call f es) W σ H Q → rA G xa cal es W σ H fun vs H1 => spF G xa cal f (vs ++ []) H1 Q (fun cls d H => ∀ σ', W cls d σ' H) := fun {σ H Q} ⟨F, ι, h, ρ, r, en, P⟩ => by
    simp only [ev] at P
    refine rA_of r en P.bind fun ds h1 vs H1 ι1 P1 g1 r1 s1 => ?_
    rw [List.append_nil]
    exact ⟨F, ι1, h1, ds, r1, s1, Post.toSp P1 g1⟩
  cases ps with
  | nil =>
    refine ⟨fun pins s σ H Q I z => ?_⟩
    have z := imp z
    refine (pe_call0 (dvs := []) Fn c.room (c.gl h2) (c.fnm f x h1) hk hb .nil c.passes (good_is h3).1).run pins s σ H Q I ?_
    obtain ⟨F, ι, h, ρ, r, en, P⟩ := z
    cases es with
    | nil =>
      exact P [] H ι Grow.refl r rfl
    | cons e es =>
      simp [chkEs] at ok
  | cons p ps =>
    rw [plainAll, Bool.and_eq_true] at pl
    exact PE.imp (pe_call (dvs := []) Fn c.room (c.gl h2) (c.fnm f x h1) hk hb .nil c.passes hs (good_is h3).1 (plain_star pl.1 _ _) (plainAll_back pl.2 _ _)) fun σ H Q z => imp z
theorem snd_callv (c : Ctx T G xa cal k N sc fb W X) {i : Nat} {es : Es} {x : Str} {ps : List Expr} {q pos : Pos} (h1 : N[i]? = some x) (h2 : visC sc x = true) (h3 : goodName x = true) (ne : ps.isEmpty = false) (ok : chkEs T N es sc fb ps = true) (hs : PA X ps (rA G xa cal es W)) :
    PE X (.Call (.Name x q) ps [] pos) (rE G xa cal (.callv i es) W) := by
  have pl := chkEs_plain ok
  cases ps with
  | nil => cases ne
  | cons p ps =>
    rw [plainAll, Bool.and_eq_true] at pl
    refine ⟨fun pins s σ H Q I ⟨F, ι, h, ρ, r, en, P⟩ => ?_⟩
    simp only [ev] at P
    split at P
    · rename_i f e
      obtain ⟨v, e1, rv⟩ := en.2 i _ e
      obtain ⟨rfl, hf⟩ := (show v = V.ref (G.fa f) ∧ f < G.nf from rv)
      rw [c.nf] at hf
      obtain ⟨hk, fd, pp, Fn, hb⟩ := c.fns f hf
      refine (pe_callL (dvs := []) (i := i) (f := G.fa f) (sp := spF G xa cal f) Fn c.room (by rw [c.hN]; exact h1) (c.vis h2) hk hb .nil c.passes hs (good_is h3).1 (good_is h3).2.1 (plain_star pl.1 _ _) (plainAll_back pl.2 _ _)).run pins s σ H Q I ⟨e1, ?_⟩
      refine rA_of r en P.bind fun ds h1 vs H1 ι1 P1 g1 r1 s1 => ?_
      rw [List.append_nil]
      exact ⟨F, ι1, h1, ds, r1, s1, Post.toSp P1 g1⟩
    · exact P.elim
end
end PL
end
section
set_option Elab.async false
set_option linter.all false
set_option maxRecDepth 100000
set_option maxHeartbeats 1000000
/-! PLS9: built-in functions, methods, items, targets. -/
namespace PL
open PySem PySem.Spec PyProof.Rows L2
section
variable {T : Tab} {G : Ge} {xa : Nat → Addr} {cal : Cal} {k : Nat} {N : List Str} {sc : Scope} {fb : Str → Bool} {W : WX} {X : Cx} {F : Addr → Prop} {ι : List Addr} {H : Hp} {h : Hpp} {ρ : List (Option D)} {σ : L2.St} {Q : VK}
theorem pe_bi (c : Ctx T G xa cal k N sc fb W X) (b : Bi) (ok : biOk b = true) (gl : glC sc (biName b) = true) {r : List V → Hp → VK → Prop} (cr : CallR X (biV b) r) {p : Expr} {ps : List Expr} {q pos : Pos} {t : TA} (pl : plainAll (p :: ps) = true) (ha : PA X (p :: ps) t) :
    PE X (.Call (.Name (biName b) q) (p :: ps) [] pos) (tCB r t) := by
  rw [plainAll, Bool.and_eq_true] at pl
  have s1 := plain_star pl.1 ps X.env
  have s2 := plainAll_back pl.2 pos X.env
  cases b with
  | len => exact pe_callB cr (c.gl gl) (c.free _ (by decide)) (by decide +kernel) ha (by decide) (by decide) s1 s2
  | abs => exact pe_callB cr (c.gl gl) (c.free _ (by decide)) (by decide +kernel) ha (by decide) (by decide) s1 s2
  | all => exact pe_callB cr (c.gl gl) (c.free _ (by decide)) (by decide +kernel) ha (by decide) (by decide) s1 s2
  | any => exact pe_callB cr (c.gl gl) (c.free _ (by decide)) (by decide +kernel) ha (by decide) (by decide) s1 s2
  | sum => exact pe_callB cr (c.gl gl) (c.free _ (by decide)) (by decide +kernel) ha (by decide) (by decide) s1 s2
  | max => exact pe_callB cr (c.gl gl) (c.free _ (by decide)) (by decide +kernel) ha (by decide) (by decide) s1 s2
  | min => exact pe_callB cr (c.gl gl) (c.free _ (by decide)) (by decide +kernel) ha (by decide) (by decide) s1 s2
  | int => exact pe_callTy cr (c.gl gl) (c.free _ (by decide)) (by decide +kernel) ha (by decide) (by decide) s1 s2
  | tuple => exact pe_callTy cr (c.gl gl) (c.free _ (by decide)) (by decide +kernel) ha (by decide) (by decide) s1 s2
  | list => exact pe_callTy cr (c.gl gl) (c.free _ (by decide)) (by decide +kernel) ha (by decide) (by decide) s1 s2
  | sorted => cases ok
  | dict => cases ok
theorem snd_bi (c : Ctx T G xa cal k N sc fb W X) {b : Bi} {th : Bool} {es : Es} {ps : List Expr} {q pos : Pos} (h1 : biOk b = true) (h2 : glC sc (biName b) = true) (ne : ps.isEmpty = false) (ok : chkEs T N es sc fb ps = true) (hs : PA X ps (rA G xa cal es W)) :
    PE X (.Call (.Name (biName b) q) ps [] pos) (rE G xa cal (.bi b th es) W) := by
  have pl := chkEs_plain ok
  cases ps with
  | nil => cases ne
  | cons p ps =>
    refine PE.imp (pe_bi c b h1 h2 (call_bi G.fa G.nf G.nx c.calm b th h1) pl hs) fun σ H Q ⟨F, ι, h, ρ, r, en, P⟩ => ?_
    rw [c.eqK]
    simp only [ev] at P
    refine rA_of r en P.bind fun ds h1 vs H1 ι1 P1 g1 r1 s1 => ?_
    exact ⟨F, ι1, h1, ds, _, r1, s1, Post.from P1 g1⟩
/-! isinstance -/
theorem pe_ty (c : Ctx T G xa cal k N sc fb W X) (t : Ty) (gl : glC sc (tyName t) = true) {pos : Pos} : PE X (.Name (tyName t) pos) (tC (.ty (tyS t))) := by
  cases t with
  | int => exact pe_bltn (c.gl gl) (c.free _ (by decide)) (by decide +kernel) rfl (by decide) (by decide)
  | bool => exact pe_bltn (c.gl gl) (c.free _ (by decide)) (by decide +kernel) rfl (by decide) (by decide)
  | str => exact pe_bltn (c.gl gl) (c.free _ (by decide)) (by decide +kernel) rfl (by decide) (by decide)
  | tuple => exact pe_bltn (c.gl gl) (c.free _ (by decide)) (by decide +kernel) rfl (by decide) (by decide)
  | list => exact pe_bltn (c.gl gl) (c.free _ (by decide)) (by decide +kernel) rfl (by decide) (by decide)
theorem pa_tys (c : Ctx T G xa cal k N sc fb W X) : ∀ (ts : List Ty) (ps : List Expr), chkTys sc ts ps = true → PA X ps (fun _ H Q => Q (ts.map fun t => V.ty (tyS t)) H) ∧ ps.length = ts.length
  | [], ps, ok => by
    cases ps with
    | nil => exact ⟨pa_nil, rfl⟩
    | cons _ _ => simp [chkTys] at ok
  | t :: ts, ps, ok => by
    cases ps with
    | nil => simp [chkTys] at ok
    | cons p ps =>
      simp only [chkTys, Bool.and_eq_true] at ok
      obtain ⟨⟨o1, o2⟩, o3⟩ := ok
      obtain ⟨h1, h2⟩ := pa_tys c ts ps o3
      split at o1
      · rename_i x e
        obtain ⟨pos, rfl⟩ := vName_eq e
        obtain ⟨rfl, gl⟩ := glN_is o1
        exact ⟨PA.imp (pa_cons (pe_ty c t gl) h1 rfl) fun σ H Q q => q, by simp [h2]⟩
      · cases o1
theorem isiP {ts : List Ty} : Paired ClsV (ts.map fun t => V.ty (tyS t)) (ts.map fun t => Value.type (tyS t)) := by
  induction ts with
  | nil => exact .nil
  | cons t ts ih => exact .cons (.ty _) ih
theorem snd_isi (c : Ctx T G xa cal k N sc fb W X) {a : E} {ts : List Ty} {x y : Expr} {q pos : Pos} (gl : glC sc "isinstance" = true) (px : plain x = true) (py : plain y = true) (ha : PE X x (rE G xa cal a W)) (ok : chkIsi sc ts y = true) :
    PE X (.Call (.Name "isinstance" q) [x, y] [] pos) (rE G xa cal (.isi a ts) W) := by
  have s1 := plain_star px [y] X.env
  have s2 : (backTo pos (starEach [y] X.env)).any (·.1) = false := plainAll_back (es := [y]) (by simp [plainAll, py]) pos X.env
  have key : ∀ {σ H Q}, rE G xa cal (.isi a ts) W σ H Q → rE G xa cal a W σ H fun v H1 => ∃ F ι1 h1 d, Rel G F ι1 H1 h1 ∧ VR G F ι1 H1 d v ∧ tyOk d h1 = true ∧ okp G F ι1 H1 Q (.bl (ts.any fun t => isTy d h1 t)) h1 := fun {σ H Q} ⟨F, ι, h, ρ, r, en, P⟩ => by
    simp only [ev] at P
    refine rE_of r en P.bind fun d1 h1 v1 H1 ι1 P1 g1 r1 s1 => ?_
    split at P1
    · rename_i t
      exact ⟨F, ι1, h1, d1, r1, s1, t, (Post.from P1 g1 :)⟩
    · exact P1.elim
  unfold chkIsi at ok
  split at ok
  · rename_i t
    obtain ⟨h1, _⟩ := pa_tys c [t] [y] ok
    refine PE.imp (pe_callB call_isi (c.gl gl) (c.free _ (by decide)) boot_isinstance (pa_cons ha h1 s1) (by decide) (by decide) s1 s2) fun σ H Q z => ?_
    obtain ⟨F, ι, h, ρ, r, en, P⟩ := key z
    refine rE_of r en P fun d1 h1 v1 H1 ι1 P1 g1 r1 s1 => ?_
    obtain ⟨F', ι', h', d, r', s', t', o⟩ := P1 v1 H1 ι1 g1 r1 s1
    refine ⟨v1, .ty (tyS t), _, _, isTy d h' t, rfl, .ty _, by rw [c.hK]; exact typ_ok r' s' t', kit_ty (kit_tt d t t'), ?_⟩
    have o := o (.bl _) H1 ι' Grow.refl r' rfl
    simpa using o
  · split at ok
    · rename_i es e
      obtain ⟨⟨kk, pp, rfl⟩, hl⟩ := vTup_eq e
      obtain ⟨h1, h2⟩ := pa_tys c ts es ok
      refine PE.imp (pe_callB call_isiT (c.gl gl) (c.free _ (by decide)) boot_isinstance (pa_cons ha (pa_cons (pe_tup h1) pa_nil rfl) s1) (by decide) (by decide) s1 s2) fun σ H Q z => ?_
      obtain ⟨F, ι, h, ρ, r, en, P⟩ := key z
      refine rE_of r en P fun d1 h1 v1 H1 ι1 P1 g1 r1 s1 => ?_
      obtain ⟨F', ι', h', d, r', s', t', o⟩ := P1 v1 H1 ι1 g1 r1 s1
      refine ⟨by rw [List.length_map, ← h2, line_eq]; have : line = 16777216 := rfl; omega, fun p n => ?_⟩
      obtain ⟨r2, g2⟩ := r'.upd (o := .tup (ts.map fun t => V.ty (tyS t))) n
      refine ⟨v1, p, _, _, _, _, rfl, upd_same, isiP, by rw [c.hK]; exact typ_ok r2 (VR.up g2 r'.cellsOk s') t', kit_any d t' ts, o _ _ _ g2 r2 rfl⟩
    · cases ok
/-! methods of lists -/
theorem recv_ok {m : Mt} {o : D} {v : V} (mo : mtOk m = true) (r : Rel G F ι H h) (rv : VR G F ι H o v) (q : mtRecv m o h = true) : tyV G.K "list" v H := by
  have q : (lstOf o h).isSome = true := by
    cases m <;> first | exact q | cases mo
  obtain ⟨xs, e⟩ := Option.isSome_iff_exists.mp q
  obtain ⟨a, vs, rfl, t, u⟩ := VR.lst r rv e
  exact .inl ⟨rfl, vs, SqL.of t⟩
theorem few_ok {e : Expr} {es : List Expr} {pos : Pos} {env : PySem.Env} (pl : plainAll (e :: es) = true) (hl : (e :: es).length ≤ 4) : ((backTo pos (starEach (e :: es) env)).all (fun x => !x.1) && (backToKw pos (keywordEach [] env)).all (fun x => x.1.isSome)
      && decide ((e :: es).length + ([] : List Keyword).length + (if ([] : List Keyword).isEmpty then 0 else 1) < 30)) = true := by
  have h1 := plainAll_back pl pos env
  have h2 : (backTo pos (starEach (e :: es) env)).all (fun x => !x.1) = true := by
    rw [List.all_eq_true]
    intro x hx
    rw [List.any_eq_false] at h1
    have := h1 x hx
    cases hb : x.1
    · rfl
    · exact absurd hb this
  rw [h2]
  have h3 : (e :: es).length + ([] : List Keyword).length + (if ([] : List Keyword).isEmpty then 0 else 1) < 30 := by
    simp only [List.length_nil, List.isEmpty_nil, if_true]
    omega
  rw [decide_eq_true h3]
  rfl
theorem snd_mth (c : Ctx T G xa cal k N sc fb W X) {m : Mt} {o : E} {es : Es} {qo : Expr} {ps : List Expr} {apos cpos : Pos} (mo : mtOk m = true) (hb : plainBase qo = true) (hline : (apos.endLine == cpos.line) = true) (hl : ps.length ≤ 4) (ho : PE X qo (rE G xa cal o W)) (ok : chkEs T N es sc fb ps = true) (hs : PA X ps (rA G xa cal es W)) :
    PE X (.Call (.Attribute qo (mtName m) apos) ps [] cpos) (rE G xa cal (.mth m o es) W) := by
  have pl := chkEs_plain ok
  have hbase := plainBase_is hb (mtName m) X.env
  have key : ∀ {σ H Q}, rE G xa cal (.mth m o es) W σ H Q → rE G xa cal o W σ H fun x H1 => tyV X.K "list" x H1 ∧ rA G xa cal es W σ H1 fun xs H2 => rMt ⟨X.K, G.fa, G.nf, G.nx⟩ m x xs H2 Q := fun {σ H Q} ⟨F, ι, h, ρ, r, en, P⟩ => by
    rw [c.eqK]
    simp only [ev] at P
    refine rE_of r en P.bind fun d1 h1 v1 H1 ι1 P1 g1 r1 s1 => ?_
    split at P1
    · rename_i q
      refine ⟨by rw [c.hK]; exact recv_ok mo r1 s1 q, ?_⟩
      refine rA_of r1 (en.up g1 r.cellsOk) (Post.from P1 g1).bind fun ds h2 vs H2 ι2 P2 g2 r2 s2 => ?_
      exact ⟨F, ι2, h2, d1, ds, _, r2, s1.up g2 r1.cellsOk, s2, Post.from P2 g2⟩
    · exact P1.elim
  cases ps with
  | nil =>
    cases es with
    | cons e es => simp [chkEs] at ok
    | nil =>
      cases m with
      | pop =>
        refine PE.imp (pe_bm0 F.plainAttrs_list F.slot_list_pop F.type_list_pop (mt_pop' G.fa G.nf G.nx) ho hbase hline) fun σ H Q z => ?_
        obtain ⟨F, ι, h, ρ, r, en, P⟩ := key z
        refine rE_of r en P fun d1 h1 v1 H1 ι1 P1 g1 r1 s1 => ?_
        obtain ⟨t, F', ι', h', ρ', r', en', P'⟩ := P1 v1 H1 ι1 g1 r1 s1
        exact ⟨t, P' [] H1 ι' Grow.refl r' rfl⟩
      | append =>
        refine PE.imp (pe_bm0 F.plainAttrs_list F.slot_list_append F.type_list_append (mt_append' G.fa G.nf G.nx) ho hbase hline) fun σ H Q z => ?_
        obtain ⟨F, ι, h, ρ, r, en, P⟩ := key z
        refine rE_of r en P fun d1 h1 v1 H1 ι1 P1 g1 r1 s1 => ?_
        obtain ⟨t, F', ι', h', ρ', r', en', P'⟩ := P1 v1 H1 ι1 g1 r1 s1
        exact ⟨t, P' [] H1 ι' Grow.refl r' rfl⟩
      | extend =>
        refine PE.imp (pe_bm0 F.plainAttrs_list F.slot_list_extend F.type_list_extend (mt_extend' G.fa G.nf G.nx) ho hbase hline) fun σ H Q z => ?_
        obtain ⟨F, ι, h, ρ, r, en, P⟩ := key z
        refine rE_of r en P fun d1 h1 v1 H1 ι1 P1 g1 r1 s1 => ?_
        obtain ⟨t, F', ι', h', ρ', r', en', P'⟩ := P1 v1 H1 ι1 g1 r1 s1
        exact ⟨t, P' [] H1 ι' Grow.refl r' rfl⟩
      | insert =>
        refine PE.imp (pe_bm0 F.plainAttrs_list F.slot_list_insert F.type_list_insert (mt_insert' G.fa G.nf G.nx) ho hbase hline) fun σ H Q z => ?_
        obtain ⟨F, ι, h, ρ, r, en, P⟩ := key z
        refine rE_of r en P fun d1 h1 v1 H1 ι1 P1 g1 r1 s1 => ?_
        obtain ⟨t, F', ι', h', ρ', r', en', P'⟩ := P1 v1 H1 ι1 g1 r1 s1
        exact ⟨t, P' [] H1 ι' Grow.refl r' rfl⟩
      | index =>
        refine PE.imp (pe_bm0 F.plainAttrs_list F.slot_list_index F.type_list_index (mt_index' G.fa G.nf G.nx (by have := c.room.un; omega)) ho hbase hline) fun σ H Q z => ?_
        obtain ⟨F, ι, h, ρ, r, en, P⟩ := key z
        refine rE_of r en P fun d1 h1 v1 H1 ι1 P1 g1 r1 s1 => ?_
        obtain ⟨t, F', ι', h', ρ', r', en', P'⟩ := P1 v1 H1 ι1 g1 r1 s1
        exact ⟨t, P' [] H1 ι' Grow.refl r' rfl⟩
      | _ => cases mo
  | cons p ps =>
    have few := few_ok (pos := cpos) (env := X.env) pl hl
    rw [plainAll, Bool.and_eq_true] at pl
    have s1 := plain_star pl.1 ps X.env
    have s2 := plainAll_back pl.2 cpos X.env
    cases m with
    | pop => exact PE.imp (pe_bm F.plainAttrs_list F.slot_list_pop F.type_list_pop (mt_pop' G.fa G.nf G.nx) ho hs hbase few hline s1 s2) fun σ H Q z => key z
    | append => exact PE.imp (pe_bm F.plainAttrs_list F.slot_list_append F.type_list_append (mt_append' G.fa G.nf G.nx) ho hs hbase few hline s1 s2) fun σ H Q z => key z
    | extend => exact PE.imp (pe_bm F.plainAttrs_list F.slot_list_extend F.type_list_extend (mt_extend' G.fa G.nf G.nx) ho hs hbase few hline s1 s2) fun σ H Q z => key z
    | insert => exact PE.imp (pe_bm F.plainAttrs_list F.slot_list_insert F.type_list_insert (mt_insert' G.fa G.nf G.nx) ho hs hbase few hline s1 s2) fun σ H Q z => key z
    | index => exact PE.imp (pe_bm F.plainAttrs_list F.slot_list_index F.type_list_index (mt_index' G.fa G.nf G.nx (by have := c.room.un; omega)) ho hs hbase few hline s1 s2) fun σ H Q z => key z
    | _ => cases mo
theorem snd_idx (c : Ctx T G xa cal k N sc fb W X) {a b : E} {x y : Expr} {pos : Pos} (py : plain y = true) (ha : PE X x (rE G xa cal a W)) (hb : PE X y (rE G xa cal b W)) : PE X (.Subscript x y pos) (rE G xa cal (.idx a b) W) :=
  PE.imp (pe_ix (ix_item G.fa G.nf G.nx) ha hb (plain_ix py)) fun σ H Q ⟨F, ι, h, ρ, r, en, P⟩ => by
    rw [c.eqK]
    simp only [ev] at P
    refine rE_of r en P.bind fun d1 h1 v1 H1 ι1 P1 g1 r1 s1 => ?_
    refine rE_of r1 (en.up g1 r.cellsOk) (Post.from P1 g1).bind fun d2 h2 v2 H2 ι2 P2 g2 r2 s2 => ?_
    obtain ⟨d, e, P3⟩ := Post.opt (Post.from P2 g2)
    exact ⟨F, ι2, h2, d1, d2, d, r2, s1.up g2 r1.cellsOk, s2, e, fun v rv => P3 v H2 ι2 Grow.refl r2 rv⟩
/-! chains -/
theorem snd_chain (c : Ctx T G xa cal k N sc fb W X) {o1 o2 : Cop} {a b cc : E} {x y z : Expr} {pos : Pos} (pz : plain z = true) (ha : PE X x (rE G xa cal a W)) (hb : PE X y (rE G xa cal b W)) (hc : PE X z (rE G xa cal cc W)) : PE X (.Compare x [pyCop o1, pyCop o2] [y, z] pos) (rE G xa cal (.chain o1 o2 a b cc) W) :=
  PE.imp (pe_chain (op_cop G.fa G.nf G.nx c.room.units o1) (op_cop G.fa G.nf G.nx c.room.units o2) ha hb hc (plain_behind pz _)) fun σ H Q ⟨F, ι, h, ρ, r, en, P⟩ => by
    rw [c.eqK]
    simp only [ev] at P
    refine rE_of r en P.bind fun d1 h1 v1 H1 ι1 P1 g1 r1 s1 => ?_
    refine rE_of r1 (en.up g1 r.cellsOk) (Post.from P1 g1).bind fun d2 h2 v2 H2 ι2 P2 g2 r2 s2 => ?_
    obtain ⟨b1, e1, P3⟩ := Post.opt P2.bind
    refine ⟨F, ι2, h2, d1, d2, b1, r2, s1.up g2 r1.cellsOk, s2, e1, b1, rfl, ?_⟩
    cases b1 with
    | false =>
      exact same_ok r2 (Post.from P3 g2) rfl
    | true =>
      refine rE_of r2 ((en.up g1 r.cellsOk).up g2 r1.cellsOk) (Post.from P3 g2).bind fun d3 h3 v3 H3 ι3 P4 g3 r3 s3 => ?_
      obtain ⟨b2, e2, P5⟩ := Post.opt P4.bind
      exact ⟨F, ι3, h3, d2, d3, b2, r3, s2.up g3 r2.cellsOk, s3, e2, same_ok r3 (Post.from P5 g3) rfl⟩
end
end PL
end
section
set_option Elab.async false
set_option linter.all false
set_option maxRecDepth 100000
set_option maxHeartbeats 1000000
/-! PLS10: targets; what is walked. -/
namespace PL
open PySem PySem.Spec PyProof.Rows L2
theorem wipe_comm {σ : L2.St} {i : Nat} {o : Option V} : ∀ {vs : List Nat}, i ∉ vs → L2.wipe (σ.set i o) vs = (L2.wipe σ vs).set i o
  | [], _ => rfl
  | j :: r, h => by
    have hj : i ≠ j := fun e => h (by rw [e]; exact List.mem_cons_self)
    have hr : i ∉ r := fun e => h (List.mem_cons_of_mem _ e)
    show (L2.wipe (σ.set i o) r).set j none = ((L2.wipe σ r).set j none).set i o
    rw [wipe_comm hr, List.set_comm _ _ hj]
theorem wipe_set {σ : L2.St} {i : Nat} {o : Option V} : ∀ {vs : List Nat}, i ∈ vs → L2.wipe (σ.set i o) vs = L2.wipe σ vs
  | j :: r, h => by
    show (L2.wipe (σ.set i o) r).set j none = (L2.wipe σ r).set j none
    by_cases hr : i ∈ r
    · rw [wipe_set hr]
    · have hj : i = j := by
        rcases List.mem_cons.mp h with e | e
        · exact e
        · exact absurd e hr
      subst hj
      rw [wipe_comm hr, List.set_set]
theorem wipe_mem {σ : L2.St} : ∀ {vs : List Nat} {i : Nat}, i ∈ vs → (L2.wipe σ vs).set i none = L2.wipe σ vs
  | j :: r, i, h => by
    show ((L2.wipe σ r).set j none).set i none = (L2.wipe σ r).set j none
    by_cases hj : i = j
    · subst hj; rw [List.set_set]
    · have hr : i ∈ r := by
        rcases List.mem_cons.mp h with e | e
        · exact absurd e hj
        · exact e
      rw [List.set_comm _ _ (Ne.symm hj), wipe_mem hr]
theorem wipe_wipe {σ : L2.St} : ∀ {vs ws : List Nat}, (∀ i ∈ ws, i ∈ vs) → L2.wipe (L2.wipe σ vs) ws = L2.wipe σ vs
  | vs, [], _ => rfl
  | vs, j :: r, h => by
    show (L2.wipe (L2.wipe σ vs) r).set j none = _
    rw [wipe_wipe fun i hi => h i (List.mem_cons_of_mem _ hi), wipe_mem (h j List.mem_cons_self)]
def rG (G : Ge) (tg : Tg) : TG := fun v σ H Q => ∃ (F : Addr → Prop) (ι : List Addr) (h : Hpp) (ρ : List (Option D)) (d : D) (ρ' : List (Option D)), Rel G F ι H h ∧ EnvR G F ι H ρ σ ∧ VR G F ι H d v ∧ sto tg ρ d = some ρ' ∧
  ∀ σ', EnvR G F ι H ρ' σ' → (∀ vs, tgIn vs tg = true → L2.wipe σ' vs = L2.wipe σ vs) → Q σ' H
def rGs (G : Ge) (ts : Tg) : TGs := fun us σ H Q => ∃ (F : Addr → Prop) (ι : List Addr) (h : Hpp) (ρ : List (Option D)) (ds : List D) (ρ' : List (Option D)), Rel G F ι H h ∧ EnvR G F ι H ρ σ ∧ VRs G F ι H ds us ∧ stos ts ρ ds = some ρ' ∧
  ∀ σ', EnvR G F ι H ρ' σ' → (∀ vs, tgIn vs ts = true → L2.wipe σ' vs = L2.wipe σ vs) → Q σ' H
section
variable {T : Tab} {G : Ge} {xa : Nat → Addr} {cal : Cal} {k : Nat} {N : List Str} {sc : Scope} {fb : Str → Bool} {W : WX} {X : Cx} {F : Addr → Prop} {ι : List Addr} {H : Hp} {h : Hpp} {ρ : List (Option D)} {σ : L2.St} {Q : VK}
theorem PG.imp {e : Expr} {t t' : TG} (p : PG X e t) (i : ∀ v σ H Q, t' v σ H Q → t v σ H Q) : PG X e t' := ⟨fun pins s σ H v u Q I r q => p.run pins s σ H v u Q I r (i _ _ _ _ q)⟩
theorem PGs.imp {e : List Expr} {t t' : TGs} (p : PGs X e t) (i : ∀ v σ H Q, t' v σ H Q → t v σ H Q) : PGs X e t' := ⟨fun pins s σ H v u Q I r q => p.run pins s σ H v u Q I r (i _ _ _ _ q)⟩
theorem Ctx.sto (c : Ctx T G xa cal k N sc fb W X) {x : Str} (h : stoC sc fb x = true) : Loc X.env.scope x ∧ (X.fn x = true ∨ X.env.scope.names.lookup x = some .local) := by
  rw [c.sc, c.fn]; exact stoC_ok h
mutual
theorem snd_tg (c : Ctx T G xa cal k N sc fb W X) : ∀ (tg : Tg) (p : Expr), chkG N sc fb tg p = true → PG X p (rG G tg)
  | .nil, p, ok => by simp [chkG] at ok
  | .cons _ _, p, ok => by simp [chkG] at ok
  | .name i, p, ok => by
    simp only [chkG] at ok
    split at ok
    · rename_i x e
      obtain ⟨pos, rfl⟩ := vName_eq e
      rw [Bool.and_eq_true] at ok
      obtain ⟨o1, o2⟩ := ok
      obtain ⟨l1, l2⟩ := c.sto o2
      refine PG.imp (pg_name (by rw [c.hN]; exact c.nd) (by rw [c.hN]; exact of_decide_eq_true o1) l1 l2) fun v σ H Q ⟨F, ι, h, ρ, d, ρ', r, en, rv, e, q⟩ => ?_
      simp only [sto] at e
      cases e
      exact q _ (en.set rv) fun vs hv => wipe_set (of_decide_eq_true (by simpa [tgIn] using hv))
    · cases ok
  | .tup ts, p, ok => by
    simp only [chkG] at ok
    split at ok
    · rename_i es e
      obtain ⟨⟨kk, pos, rfl⟩, hl⟩ := vTup_eq e
      rw [Bool.and_eq_true] at ok
      obtain ⟨o1, o2⟩ := ok
      obtain ⟨l1, l2⟩ := plainAll_asg o1 X.env
      refine PG.imp (pg_tup c.calm (snd_tgs c ts es o2) l1 l2) fun v σ H Q ⟨F, ι, h, ρ, d, ρ', r, en, rv, e, q⟩ => ?_
      simp only [PL.sto] at e
      split at e
      · rename_i ds
        obtain ⟨a, vs, rfl, t, u⟩ := rv
        refine ⟨a, vs, rfl, by rw [c.hK]; exact t, ?_, F, ι, h, ρ, ds, ρ', r, en, u, e, fun σ' e1 e2 => q σ' e1 fun vs hv => e2 vs (by simpa [tgIn] using hv)⟩
        rw [VRs.length u]
        exact stos_len ts es ρ ds ρ' o2 e
      · cases e
    · cases ok
theorem snd_tgs (c : Ctx T G xa cal k N sc fb W X) : ∀ (ts : Tg) (ps : List Expr), chkGs N sc fb ts ps = true → PGs X ps (rGs G ts)
  | .nil, ps, ok => by
    cases ps with
    | nil =>
      refine PGs.imp pgs_nil fun v σ H Q ⟨F, ι, h, ρ, d, ρ', r, en, rv, e, q⟩ => ?_
      simp only [stos] at e
      split at e
      · cases e
        exact ⟨rv, q _ en fun _ _ => rfl⟩
      · cases e
    | cons _ _ => simp [chkGs] at ok
  | .name _, ps, ok => by simp [chkGs] at ok
  | .tup _, ps, ok => by simp [chkGs] at ok
  | .cons t ts, ps, ok => by
    cases ps with
    | nil => simp [chkGs] at ok
    | cons p ps =>
      simp only [chkGs, Bool.and_eq_true] at ok
      have pl : plain p = true := by
        cases t with
        | name i =>
          simp only [chkG] at ok
          split at ok
          · rename_i x e
            obtain ⟨pos, rfl⟩ := vName_eq e
            rfl
          · exact absurd ok.1 (by simp)
        | tup ts =>
          simp only [chkG] at ok
          split at ok
          · rename_i x e
            obtain ⟨⟨_, _, rfl⟩, _⟩ := vTup_eq e
            rfl
          · exact absurd ok.1 (by simp)
        | nil => simp [chkG] at ok
        | cons _ _ => simp [chkG] at ok
      refine PGs.imp (pgs_cons (snd_tg c t p ok.1) (snd_tgs c ts ps ok.2) (by rw [plain_asg pl]; rfl)) fun v σ H Q ⟨F, ι, h, ρ, d, ρ', r, en, rv, e, q⟩ => ?_
      simp only [stos] at e
      split at e
      · cases e
      · rename_i d ds
        split at e
        · rename_i ρ1 e1
          obtain ⟨u, us, rfl, ru, rus⟩ := rv
          refine ⟨u, us, rfl, F, ι, h, ρ, d, ρ1, r, en, ru, e1, fun σ' en' w1 => ?_⟩
          refine ⟨F, ι, h, ρ1, ds, ρ', r, en', rus, e, fun σ2 en2 w2 => q σ2 en2 fun vs hv => ?_⟩
          simp only [tgIn, Bool.and_eq_true] at hv
          rw [w2 vs hv.2, w1 vs hv.1]
        · cases e
theorem stos_len : ∀ (ts : Tg) (ps : List Expr) (ρ : List (Option D)) (ds : List D) (ρ' : List (Option D)), chkGs N sc fb ts ps = true → stos ts ρ ds = some ρ' → ds.length = ps.length
  | .nil, ps, ρ, ds, ρ', ok, e => by
    cases ps with
    | nil => cases ds with
      | nil => rfl
      | cons _ _ => simp [stos] at e
    | cons _ _ => simp [chkGs] at ok
  | .name _, ps, _, _, _, ok, _ => by simp [chkGs] at ok
  | .tup _, ps, _, _, _, ok, _ => by simp [chkGs] at ok
  | .cons t ts, ps, ρ, ds, ρ', ok, e => by
    cases ps with
    | nil => simp [chkGs] at ok
    | cons p ps =>
      simp only [chkGs, Bool.and_eq_true] at ok
      cases ds with
      | nil => simp [stos] at e
      | cons d ds =>
        simp only [stos] at e
        split at e
        · rename_i ρ1 e1
          simp [stos_len ts ps ρ1 ds ρ' ok.2 e]
        · cases e
end
/-! ### what is walked -/
def Walk (G : Ge) (F : Addr → Prop) (J : It) (s : Src) (H0 : Hp) (ι0 : List Addr) : Prop := ∀ (F' : Addr → Prop) (H : Hp) (ι : List Addr) (h : Hpp), (∀ a, F' a → F a ∨ H0 a = none) → Grow H0 ι0 H ι → Rel G F' ι H h → s.ok h = true → ∀ i,
  (∀ d, s.items[i]? = some d → J.go i H ∧ ∀ x H', J.yld i H x H' → Rel G F' ι H' h ∧ Grow H ι H' ι ∧ VR G F' ι H' d x) ∧ (s.items.length = i → J.stop i H)
def rI (G : Ge) (xa : Nat → Addr) (cal : Cal) (it : PL.Itr) (W : WX) : TI := fun σ H R => ∃ F ι h ρ, Rel G F ι H h ∧ EnvR G F ι H ρ σ ∧ Post (src cal it ρ h) (fun s h' => ∀ J H' ι', Grow H ι H' ι' → Rel G F ι' H' h' → Walk G F J s H' ι' → R J H') (erx G F xa ι H W)
theorem pi_seq {tg l : Expr} {tl : TE} (hl : PE X l tl) : PI X tg l (fun σ H R => tl σ H fun x H1 => ∃ a xs, x = .ref a ∧ ((SqL X.K H1 a xs ∧ R (Itl X.K a) H1) ∨ (SqT X.K H1 a xs ∧ R (Itt X.K a) H1))) := by
  refine ⟨fun pins s σ H R I h => ?_⟩
  refine thn (hl.run pins s σ H _ I h) fun v s1 ⟨x, H1, I1, r1, q1⟩ => ?_
  obtain ⟨a, xs, e, q⟩ := q1
  subst e
  cases r1
  rcases q with ⟨hq, q⟩ | ⟨hq, q⟩
  · obtain ⟨its, rv, p, hz⟩ := I1.list hq
    refine wpAny_pyIter_list p.isList ?_
    refine ⟨s1.heap.objs.size, [s1.heap.objs.size], _, _, H1, rfl, I1.kept (t' := s1.toks) fun b o e => Heap.get?_push_of_some _ e, turn_list a _, ⟨_, Heap.get?_push_size _ rfl, rfl, rfl⟩, fun b hb => ?_, q⟩
    have e : b = s1.heap.objs.size := by simpa using hb
    subst e
    exact I1.fpOk (Nat.le_refl _) (I1.hok.fresh (Nat.le_refl _))
  · obtain ⟨its, rv, p, hz⟩ := I1.tuple hq
    refine wpAny_pyIter_tuple (show s1.heap.IsTuple a its.toArray from p) ?_
    refine ⟨s1.heap.objs.size, [s1.heap.objs.size], _, _, H1, rfl, I1.kept (t' := s1.toks) fun b o e => Heap.get?_push_of_some _ e, turn_tuple a _, ⟨_, Heap.get?_push_size _ rfl, rfl, rfl⟩, fun b hb => ?_, q⟩
    have e : b = s1.heap.objs.size := by simpa using hb
    subst e
    exact I1.fpOk (Nat.le_refl _) (I1.hok.fresh (Nat.le_refl _))
/-- a row at every later time: a list, or a tuple -/
theorem row_at {d : D} {v : V} {xs : List D} (r : Rel G F ι H h) (rv : VR G F ι H d v) (e : seqOf d h = some xs) : ∃ a, v = .ref a ∧
    ((∀ (F' : Addr → Prop) (H' : Hp) (ι' : List Addr) (h' : Hpp), (∀ a, F' a → F a ∨ H a = none) → Grow H ι H' ι' → Rel G F' ι' H' h' → (Src.mk xs (heldOf d h)).ok h' = true → ∃ vs, SqL G.K H' a vs ∧ VRs G F' ι' H' xs vs) ∨
     ∀ (F' : Addr → Prop) (H' : Hp) (ι' : List Addr) (h' : Hpp), (∀ a, F' a → F a ∨ H a = none) → Grow H ι H' ι' → Rel G F' ι' H' h' → (Src.mk xs (heldOf d h)).ok h' = true → ∃ vs, SqT G.K H' a vs ∧ VRs G F' ι' H' xs vs) := by
  cases d with
  | tup ys =>
    cases e
    obtain ⟨a, vs, rfl, t, u⟩ := rv
    exact ⟨a, rfl, .inr fun F' H' ι' h' f g r' _ => ⟨vs, SqT.grow g r.cellsOk t, VRs.mono g r.cellsOk f u⟩⟩
  | fl ys =>
    cases e
    obtain ⟨a, vs, rfl, ⟨t, n, _⟩, u⟩ := rv
    exact ⟨a, rfl, .inl fun F' H' ι' h' f g r' _ => ⟨vs, SqL.of (g.keep a _ t n), VRs.mono g r.cellsOk f u⟩⟩
  | ref n =>
    obtain ⟨a, rfl, i⟩ := rv
    refine ⟨a, rfl, .inl fun F' H' ι' h' f g r' ok => ?_⟩
    unfold seqOf at e
    simp only at e
    split at e
    · rename_i ys hn
      cases e
      have e2 : h'[n]? = some (.lst xs) := by
        have ok : (Src.mk xs (heldOf (.ref n) h)).held.all (fun p => decide (h'[p.1]? = some p.2)) = true := ok
        simp only [heldOf, hn, List.all_cons, List.all_nil, Bool.and_true] at ok
        exact of_decide_eq_true ok
      obtain ⟨vs, t, w⟩ := r'.cells n a _ (g.at i) e2
      exact ⟨vs, SqL.of t, w⟩
    · cases e
  | sc is =>
    cases e
    obtain ⟨a, rfl, t⟩ := rv
    refine ⟨a, rfl, .inl fun F' H' ι' h' f g r' _ => ⟨_, ?_, VRs.ints⟩⟩
    rcases t with t | ⟨t, n, _⟩
    · exact .inr t
    · exact .inl (g.rd n t)
  | non => cases e
  | bl _ => cases e
  | int _ => cases e
  | str _ => cases e
  | fn _ => cases e
theorem walk_l {d : D} {xs : List D} {a : Addr} (q : ∀ (F' : Addr → Prop) (H' : Hp) (ι' : List Addr) (h' : Hpp), (∀ a, F' a → F a ∨ H a = none) → Grow H ι H' ι' → Rel G F' ι' H' h' → (Src.mk xs (heldOf d h)).ok h' = true → ∃ vs, SqL G.K H' a vs ∧ VRs G F' ι' H' xs vs) : Walk G F (Itl G.K a) ⟨xs, heldOf d h⟩ H ι := by
  intro F' H' ι' h' f g r' ok i
  obtain ⟨vs, t, u⟩ := q F' H' ι' h' f g r' ok
  refine ⟨fun d hd => ?_, fun hi => ⟨vs, t, by rw [VRs.length u]; exact Nat.le_of_eq hi⟩⟩
  obtain ⟨v, e1, rv⟩ := u.get hd
  refine ⟨⟨vs, v, t, e1⟩, fun x H2 ⟨e, y⟩ => ?_⟩
  subst e
  have e2 := y vs t
  rw [e1] at e2
  cases e2
  exact ⟨r', Grow.refl, rv⟩
theorem walk_t {d : D} {xs : List D} {a : Addr} (q : ∀ (F' : Addr → Prop) (H' : Hp) (ι' : List Addr) (h' : Hpp), (∀ a, F' a → F a ∨ H a = none) → Grow H ι H' ι' → Rel G F' ι' H' h' → (Src.mk xs (heldOf d h)).ok h' = true → ∃ vs, SqT G.K H' a vs ∧ VRs G F' ι' H' xs vs) : Walk G F (Itt G.K a) ⟨xs, heldOf d h⟩ H ι := by
  intro F' H' ι' h' f g r' ok i
  obtain ⟨vs, t, u⟩ := q F' H' ι' h' f g r' ok
  refine ⟨fun d hd => ?_, fun hi => ⟨vs, t, by rw [VRs.length u]; exact Nat.le_of_eq hi⟩⟩
  obtain ⟨v, e1, rv⟩ := u.get hd
  refine ⟨⟨vs, v, t, e1⟩, fun x H2 ⟨e, y⟩ => ?_⟩
  subst e
  have e2 := y vs t
  rw [e1] at e2
  cases e2
  exact ⟨r', Grow.refl, rv⟩
theorem src_no {s : Src} (e : s.held = []) (h : Hpp) : s.ok h = true := by
  unfold Src.ok; rw [e]; rfl
/-- the held cells stand as they are now -/
theorem held_now {d : D} {h : Hpp} : (heldOf d h).all (fun p => decide (h[p.1]? = some p.2)) = true := by
  unfold heldOf
  split
  · split
    · rename_i e
      simp [e]
    · rfl
  · rfl
theorem snd_of (c : Ctx T G xa cal k N sc fb W X) {e : E} {tg p : Expr} (he : PE X p (rE G xa cal e W)) : PI X tg p (rI G xa cal (.of e) W) := by
  refine PI.imp (pi_seq he) fun σ H R ⟨F, ι, h, ρ, r, en, P⟩ => ?_
  simp only [src] at P
  refine rE_of r en P.bind fun d1 h1 v1 H1 ι1 P1 g1 r1 s1 => ?_
  unfold srcOf at P1
  split at P1
  · rename_i xs e
    rw [c.hK]
    have hn := held_now (d := d1) (h := h1)
    obtain ⟨a, rfl, q⟩ := row_at r1 s1 e
    rcases q with q | q
    · obtain ⟨vs, t, _⟩ := q F H1 ι1 h1 (fun _ z => .inl z) Grow.refl r1 hn
      exact ⟨a, vs, rfl, .inl ⟨t, P1 _ H1 ι1 g1 r1 (walk_l q)⟩⟩
    · obtain ⟨vs, t, _⟩ := q F H1 ι1 h1 (fun _ z => .inl z) Grow.refl r1 hn
      exact ⟨a, vs, rfl, .inr ⟨t, P1 _ H1 ι1 g1 r1 (walk_t q)⟩⟩
  · exact P1.elim
theorem range_get (lo : Int) (n : Nat) (cc : Int) (i : Nat) : (rangeL lo n cc)[i]? = if i < n then some (.int (lo + (i : Int) * cc)) else none := by
  unfold rangeL
  rw [List.getElem?_map]
  by_cases hi : i < n
  · rw [if_pos hi, List.getElem?_range hi]; rfl
  · rw [if_neg hi, List.getElem?_eq_none (by simp; omega)]; rfl
theorem walk_r (lo : Int) (n : Nat) : Walk G F (L2.Itr lo n) ⟨rangeL lo n 1, []⟩ H ι := by
  intro F' H' ι' h' f g r' ok i
  refine ⟨fun d hd => ?_, fun hi => ?_⟩
  · have hd : (rangeL lo n 1)[i]? = some d := hd
    rw [range_get] at hd
    split at hd
    · rename_i hi
      cases hd
      refine ⟨hi, fun x H2 ⟨e1, e2⟩ => ?_⟩
      subst e1 e2
      refine ⟨r', Grow.refl, ?_⟩
      show V.int (lo + i) = V.int (lo + i * 1)
      rw [Int.mul_one]
    · cases hd
  · have hi : (rangeL lo n 1).length ≤ i := Nat.le_of_eq hi
    unfold rangeL at hi
    rw [List.length_map, List.length_range] at hi
    exact hi
theorem snd_range1 (c : Ctx T G xa cal k N sc fb W X) {a : E} {tg x : Expr} {q pos : Pos} (gl : glC sc "range" = true) (px : plain x = true) (ha : PE X x (rE G xa cal a W)) : PI X tg (.Call (.Name "range" q) [x] [] pos) (rI G xa cal (.range1 a) W) := by
  refine PI.imp (pi_range1 (c.gl gl) (c.free _ (by decide)) (pa_cons ha pa_nil (plain_star px _ _)) (by rw [plain_star px]; rfl)) fun σ H R ⟨F, ι, h, ρ, r, en, P⟩ => ?_
  simp only [src] at P
  refine rE_of r en P.bind fun d1 h1 v1 H1 ι1 P1 g1 r1 s1 => ?_
  split at P1
  · rename_i i
    unfold srcRange at P1
    split at P1
    · rename_i cc
      cases (show v1 = V.int i from s1)
      refine ⟨i, rfl, cc.2.2.1, cc.2.2.2.1, ?_⟩
      have P1 : ∀ J H' ι', Grow H ι H' ι' → Rel G F ι' H' h1 → Walk G F J ⟨rangeL 0 (i - 0).toNat 1, []⟩ H' ι' → R J H' := P1
      rw [Int.sub_zero] at P1
      exact P1 _ H1 ι1 g1 r1 (walk_r 0 i.toNat)
    · exact P1.elim
  · exact P1.elim
theorem snd_range2 (c : Ctx T G xa cal k N sc fb W X) {a b : E} {tg x y : Expr} {q pos : Pos} (gl : glC sc "range" = true) (px : plain x = true) (py : plain y = true) (ha : PE X x (rE G xa cal a W)) (hb : PE X y (rE G xa cal b W)) : PI X tg (.Call (.Name "range" q) [x, y] [] pos) (rI G xa cal (.range2 a b) W) := by
  refine PI.imp (pi_range2 (c.gl gl) (c.free _ (by decide)) (pa_cons ha (pa_cons hb pa_nil (plain_star py _ _)) (plain_star px _ _)) (by rw [plain_star px, plain_star py]; rfl) (plain_star py _ _)) fun σ H R ⟨F, ι, h, ρ, r, en, P⟩ => ?_
  simp only [src] at P
  refine rE_of r en P.bind fun d1 h1 v1 H1 ι1 P1 g1 r1 s1 => ?_
  have P1' : Post ((ev cal b ρ h1).bind _) (fun s h' => ∀ J H' ι', Grow H ι H' ι' → Rel G F ι' H' h' → Walk G F J s H' ι' → R J H') (erx G F xa ι1 H1 W) := P1.imp (fun _ _ z => z) fun _ _ z => z.from g1
  refine rE_of r1 (en.up g1 r.cellsOk) P1'.bind fun d2 h2 v2 H2 ι2 P2 g2 r2 s2 => ?_
  split at P2
  · rename_i i j
    unfold srcRange at P2
    split at P2
    · rename_i cc
      cases (show v1 = V.int i from s1)
      cases (show v2 = V.int j from s2)
      refine ⟨i, j, rfl, ⟨cc.1, cc.2.1, cc.2.2.1, cc.2.2.2.1⟩, ?_⟩
      exact P2 _ H2 ι2 (g1.trans g2) r2 (walk_r i (j - i).toNat)
    · exact P2.elim
  · exact P2.elim
theorem walk_c (lo cc : Int) (n : Nat) : Walk G F (L2.Itc lo cc n) ⟨rangeL lo n cc, []⟩ H ι := by
  intro F' H' ι' h' f g r' ok i
  refine ⟨fun d hd => ?_, fun hi => ?_⟩
  · have hd : (rangeL lo n cc)[i]? = some d := hd
    rw [range_get] at hd
    split at hd
    · rename_i hi
      cases hd
      refine ⟨hi, fun x H2 ⟨e1, e2⟩ => ?_⟩
      subst e1 e2
      exact ⟨r', Grow.refl, rfl⟩
    · cases hd
  · have hi : (rangeL lo n cc).length ≤ i := Nat.le_of_eq hi
    unfold rangeL at hi
    rw [List.length_map, List.length_range] at hi
    exact hi
theorem snd_range3 (c : Ctx T G xa cal k N sc fb W X) {a b d : E} {tg x y z : Expr} {q pos : Pos} (gl : glC sc "range" = true) (px : plain x = true) (py : plain y = true) (pz : plain z = true) (ha : PE X x (rE G xa cal a W)) (hb : PE X y (rE G xa cal b W)) (hd : PE X z (rE G xa cal d W)) : PI X tg (.Call (.Name "range" q) [x, y, z] [] pos) (rI G xa cal (.range3 a b d) W) := by
  refine PI.imp (pi_range3 (c.gl gl) (c.free _ (by decide)) (pa_cons ha (pa_cons hb (pa_cons hd pa_nil (plain_star pz _ _)) (plain_star py _ _)) (plain_star px _ _)) (plain_star px _ _) (by rw [plain_star py, plain_star pz]; rfl)) fun σ H R ⟨F, ι, h, ρ, r, en, P⟩ => ?_
  simp only [src] at P
  refine rE_of r en P.bind fun d1 h1 v1 H1 ι1 P1 g1 r1 s1 => ?_
  have P1' : Post ((ev cal b ρ h1).bind _) (fun s h' => ∀ J H' ι', Grow H ι H' ι' → Rel G F ι' H' h' → Walk G F J s H' ι' → R J H') (erx G F xa ι1 H1 W) := P1.imp (fun _ _ z => z) fun _ _ z => z.from g1
  refine rE_of r1 (en.up g1 r.cellsOk) P1'.bind fun d2 h2 v2 H2 ι2 P2 g2 r2 s2 => ?_
  have P2' : Post ((ev cal d ρ h2).bind _) (fun s h' => ∀ J H' ι', Grow H ι H' ι' → Rel G F ι' H' h' → Walk G F J s H' ι' → R J H') (erx G F xa ι2 H2 W) := P2.imp (fun _ _ z => z) fun _ _ z => z.from g2
  refine rE_of r2 ((en.up g1 r.cellsOk).up g2 r1.cellsOk) P2'.bind fun d3 h3 v3 H3 ι3 P3 g3 r3 s3 => ?_
  split at P3
  · rename_i i j cv
    split at P3
    · rename_i ec
      subst ec
      unfold srcDown at P3
      split at P3
      · rename_i cc
        cases (show v1 = V.int i from s1)
        cases (show v2 = V.int j from s2)
        cases (show v3 = V.int (-1) from s3)
        exact ⟨i, j, -1, (i - j).toNat, rfl, L2.RgC.neg cc.1 cc.2.1 cc.2.2.1 cc.2.2.2.1, P3 _ H3 ι3 ((g1.trans g2).trans g3) r3 (walk_c i (-1) (i - j).toNat)⟩
      · exact P3.elim
    · exact P3.elim
  · exact P3.elim
end
end PL
end
section
set_option Elab.async false
set_option linter.all false
set_option maxRecDepth 100000
set_option maxHeartbeats 1000000
/-! PLS11: comprehensions. -/
namespace PL
open PySem PySem.Spec PyProof.Rows L2
section
variable {T : Tab} {G : Ge} {xa : Nat → Addr} {cal : Cal} {k : Nat} {N : List Str} {sc : Scope} {fb : Str → Bool} {W : WX} {X : Cx} {F : Addr → Prop} {ι : List Addr} {H : Hp} {h : Hpp} {ρ : List (Option D)} {σ : L2.St} {Q : VK}
theorem Ctx.blk (c : Ctx T G xa cal k N sc fb W X) (scope : Scope) (s : Shared) (H : Hp) (C : Addr) (cl : List (Str × Addr)) (fp : List Addr) :
    Ctx T G xa cal k N (relS scope sc) (fbOf scope) (fun _ _ _ _ => False) (X.blk s H scope (compEnvC scope cl C X.env) fp) where
  hK := c.hK
  hN := c.hN
  nd := c.nd
  sc := by rw [← c.sc]; rfl
  fn := rfl
  calm := c.calm
  room := c.room
  takes := takes_none5
  fnm := c.fnm
  fns := c.fns
  nf := c.nf
  nx := c.nx
  exc := c.exc
  exm := c.exm
  free := c.free
  cst := c.cst
/-- a fresh place set aside -/
theorem Rel.updF {D : Addr} {o : HO} (r : Rel G F ι H h) (n : H D = none) : Rel G (fun a => F a ∨ a = D) ι (L2.upd H D o) h ∧ Grow H ι (L2.upd H D o) ι := by
  obtain ⟨r1, g⟩ := r.upd (o := o) n
  have f : ∀ a, (F a ∨ a = D) → F a ∨ H a = none := fun a z => by
    rcases z with z | z
    · exact .inl z
    · rw [z]; exact .inr n
  refine ⟨⟨r.len, r.nd, fun j a c e1 e2 => ?_, fun a ha z => ?_, fun a z => ?_⟩, g⟩
  · refine CR.mono g r.cellsOk f ?_ (r.cells j a c e1 e2)
    obtain ⟨o', q, _⟩ := r.cellsOk a (List.mem_of_getElem? e1)
    rw [upd_ne (fun z => by rw [z, n] at q; cases q)]
  · rcases z with z | z
    · exact r.own a ha z
    · obtain ⟨o', q, _⟩ := r.cellsOk a ha
      rw [z, n] at q; cases q
  · rcases z with z | z
    · exact r1.frn a z
    · rw [z]; exact ⟨o, upd_same⟩
theorem Rel.weakF {F' : Addr → Prop} (r : Rel G F' ι H h) (s : ∀ a, F a → F' a) : Rel G F ι H h where
  len := r.len
  nd := r.nd
  cells := fun j a c e1 e2 => CR.mono Grow.refl r.cellsOk (fun a z => .inl (s a z)) rfl (r.cells j a c e1 e2)
  own := fun a ha z => r.own a ha (s a z)
  frn := fun a z => r.frn a (s a z)
mutual
theorem VR.updFr {D : Addr} {vs ws : List V} (fD : F D) (nD : D ∉ ι) (hD : H D = some (.lst vs)) : ∀ {d : PL.D} {v : V}, VR G F ι H d v → VR G F ι (L2.upd H D (.lst ws)) d v
  | .non, _, r => r
  | .bl _, _, r => r
  | .int _, _, r => r
  | .str _, _, r => r
  | .tup xs, v, r => by
    obtain ⟨a, us, e, s, t⟩ := r
    refine ⟨a, us, e, ?_, VRs.updFr fD nD hD t⟩
    rcases s with s | s
    · left
      have ne : a ≠ D := fun z => by
        rcases s with s | ⟨o, s⟩
        · rw [z, hD] at s; cases s
        · rw [z, hD] at s; cases s
      rcases s with s | ⟨o, s⟩
      · exact .inl (by rw [upd_ne ne]; exact s)
      · exact .inr ⟨o, by rw [upd_ne ne]; exact s⟩
    · exact .inr s
  | .fl xs, v, r => by
    obtain ⟨a, us, e, ⟨s, n, nf⟩, t⟩ := r
    have ne : a ≠ D := fun z => nf (by rw [z]; exact fD)
    exact ⟨a, us, e, ⟨by rw [upd_ne ne]; exact s, n, nf⟩, VRs.updFr fD nD hD t⟩
  | .ref n, v, r => r
  | .fn _, _, r => r
  | .sc is, v, r => by
    obtain ⟨a, e, s⟩ := r
    refine ⟨a, e, ?_⟩
    rcases s with s | ⟨s, n, nf⟩
    · exact .inl s
    · have ne : a ≠ D := fun z => nf (by rw [z]; exact fD)
      refine .inr ⟨?_, n, nf⟩
      rcases s with s | ⟨o, s⟩
      · exact .inl (by rw [upd_ne ne]; exact s)
      · exact .inr ⟨o, by rw [upd_ne ne]; exact s⟩
theorem VRs.updFr {D : Addr} {vs ws : List V} (fD : F D) (nD : D ∉ ι) (hD : H D = some (.lst vs)) : ∀ {d : List PL.D} {v : List V}, VRs G F ι H d v → VRs G F ι (L2.upd H D (.lst ws)) d v
  | [], _, r => r
  | x :: xs, us, r => by
    obtain ⟨v, t, e, r1, r2⟩ := r
    exact ⟨v, t, e, VR.updFr fD nD hD r1, VRs.updFr fD nD hD r2⟩
end
theorem Rel.updFr {D : Addr} {vs ws : List V} (r : Rel G F ι H h) (fD : F D) (hD : H D = some (.lst vs)) : Rel G F ι (L2.upd H D (.lst ws)) h := by
  have nD : D ∉ ι := fun z => r.own D z fD
  refine ⟨r.len, r.nd, fun j a c e1 e2 => ?_, r.own, fun a z => ?_⟩
  · have ne : a ≠ D := fun z => nD (by rw [← z]; exact List.mem_of_getElem? e1)
    have q := r.cells j a c e1 e2
    cases c with
    | lst xs =>
      obtain ⟨us, t, w⟩ := q
      exact ⟨us, by rw [upd_ne ne]; exact t, VRs.updFr fD nD hD w⟩
    | dic _ => exact q
    | obj _ _ => exact q
  · by_cases e : a = D
    · rw [e]; exact ⟨_, upd_same⟩
    · obtain ⟨o, q⟩ := r.frn a z
      exact ⟨o, by rw [upd_ne e]; exact q⟩
mutual
theorem VR.adopt {F' : Addr → Prop} {D : Addr} (s : ∀ a, F a → F' a) (fD : F' D) : ∀ {d : PL.D} {v : V}, VR G F' ι H d v → VR G F (ι ++ [D]) H d v
  | .non, _, r => r
  | .bl _, _, r => r
  | .int _, _, r => r
  | .str _, _, r => r
  | .tup xs, v, r => by
    obtain ⟨a, us, e, q, t⟩ := r
    exact ⟨a, us, e, q, VRs.adopt s fD t⟩
  | .fl xs, v, r => by
    obtain ⟨a, us, e, ⟨q, n, nf⟩, t⟩ := r
    refine ⟨a, us, e, ⟨q, fun z => ?_, fun z => nf (s a z)⟩, VRs.adopt s fD t⟩
    rcases List.mem_append.mp z with z | z
    · exact n z
    · exact nf (by rw [show a = D by simpa using z]; exact fD)
  | .ref n, v, r => by
    obtain ⟨a, e, i⟩ := r
    obtain ⟨hn, _⟩ := List.getElem?_eq_some_iff.mp i
    exact ⟨a, e, by rw [List.getElem?_append_left hn]; exact i⟩
  | .fn _, _, r => r
  | .sc is, v, r => by
    obtain ⟨a, e, q⟩ := r
    refine ⟨a, e, ?_⟩
    rcases q with q | ⟨q, n, nf⟩
    · exact .inl q
    · refine .inr ⟨q, fun z => ?_, fun z => nf (s a z)⟩
      rcases List.mem_append.mp z with z | z
      · exact n z
      · exact nf (by rw [show a = D by simpa using z]; exact fD)
theorem VRs.adopt {F' : Addr → Prop} {D : Addr} (s : ∀ a, F a → F' a) (fD : F' D) : ∀ {d : List PL.D} {v : List V}, VRs G F' ι H d v → VRs G F (ι ++ [D]) H d v
  | [], _, r => r
  | x :: xs, us, r => by
    obtain ⟨v, t, e, r1, r2⟩ := r
    exact ⟨v, t, e, VR.adopt s fD r1, VRs.adopt s fD r2⟩
end
theorem Rel.adopt {F' : Addr → Prop} {D : Addr} {ds : List PL.D} {vs : List V} (r : Rel G F' ι H h) (s : ∀ a, F a → F' a) (fD : F' D) (nD : ¬ F D) (hD : H D = some (.lst vs)) (t : VRs G F' ι H ds vs) : Rel G F (ι ++ [D]) H (h ++ [.lst ds]) := by
  have ni : D ∉ ι := fun z => r.own D z fD
  refine ⟨by simp [r.len], ?_, fun j a c e1 e2 => ?_, fun a ha z => ?_, fun a z => r.frn a (s a z)⟩
  · rw [List.nodup_append]
    refine ⟨r.nd, by simp, fun a ha b hb => ?_⟩
    have e : b = D := by simpa using hb
    rw [e]
    exact fun z => ni (by rw [← z]; exact ha)
  · by_cases hj : j < ι.length
    · rw [List.getElem?_append_left hj] at e1
      rw [List.getElem?_append_left (by rw [← r.len]; exact hj)] at e2
      have q := r.cells j a c e1 e2
      cases c with
      | lst xs =>
        obtain ⟨us, t, w⟩ := q
        exact ⟨us, t, VRs.adopt s fD w⟩
      | dic _ => exact q
      | obj _ _ => exact q
    · rw [List.getElem?_append_right (by omega)] at e1
      rw [List.getElem?_append_right (by rw [← r.len]; omega)] at e2
      have k0 : j - ι.length = 0 := by
        have := (List.getElem?_eq_some_iff.mp e1).1
        simp at this; omega
      rw [k0] at e1
      rw [← r.len, k0] at e2
      simp at e1 e2
      subst e1 e2
      exact ⟨vs, hD, VRs.adopt s fD t⟩
  · rcases List.mem_append.mp ha with ha | ha
    · exact r.own a ha (s a z)
    · exact nD (by rw [← (show a = D by simpa using ha)]; exact z)
theorem Grow.adopt {H' : Hp} {ι' : List Addr} {D : Addr} (g : Grow H ι H' ι') (n : H D = none) : Grow H ι H' (ι' ++ [D]) := by
  refine ⟨g.keep, ?_, fun a ha => ?_⟩
  · obtain ⟨m, e⟩ := g.pre
    exact ⟨m ++ [D], by rw [e, List.append_assoc]⟩
  · rcases List.mem_append.mp ha with ha | ha
    · exact g.new a ha
    · rw [show a = D by simpa using ha]; exact .inr n
theorem Grow.updN {H' : Hp} {ι' : List Addr} {D : Addr} {o : HO} (g : Grow H ι H' ι') (n : H D = none) : Grow H ι (L2.upd H' D o) ι' :=
  ⟨fun a o' e ni => by rw [upd_ne (ne_of_none e n)]; exact g.keep a o' e ni, g.pre, g.new⟩
/-- the list that a comprehension has made -/
theorem made_ok {F' : Addr → Prop} {D : Addr} {th : Bool} {ι0 : List Addr} {H0 : Hp} {ds : List PL.D} {vs : List V} {E : Nat → Hpp → Prop} (r : Rel G F' ι H h) (s : ∀ a, F a → F' a) (fD : F' D) (nD : ¬ F D) (n0 : H0 D = none) (g : Grow H0 ι0 H ι) (hD : H D = some (.lst vs)) (t : VRs G F' ι H ds vs)
    (P : Post (new th ds h) (okp G F ι0 H0 Q) E) : Q (.ref D) H := by
  have ni : D ∉ ι := fun z => r.own D z fD
  cases th with
  | true =>
    refine P (.ref D) H (ι ++ [D]) (g.adopt n0) (r.adopt s fD nD hD t) ⟨D, rfl, ?_⟩
    rw [List.getElem?_append_right (by rw [r.len]; exact Nat.le_refl _), r.len]
    simp
  | false =>
    refine P (.ref D) H ι g (r.weakF s) ⟨D, vs, rfl, ⟨hD, ni, nD⟩, VRs.mono Grow.refl r.cellsOk (fun a z => .inl (s a z)) t⟩
def rTs (G : Ge) (xa : Nat → Addr) (cal : Cal) (es : Es) (W : WX) : TT := fun σ H Q => ∃ F ι h ρ, Rel G F ι H h ∧ EnvR G F ι H ρ σ ∧ Post (evc cal es ρ h) (okg G F ι H fun b H' _ => Q b H') (erx G F xa ι H W)
theorem PTs.imp {e : List Expr} {t t' : TT} (p : PTs X e t) (i : ∀ σ H Q, t' σ H Q → t σ H Q) : PTs X e t' := ⟨fun pins s σ H Q I q => p.run pins s σ H Q I (i _ _ _ q)⟩
theorem snd_ts0 : PTs X [] (rTs G xa cal .nil W) := PTs.imp pts_nil fun σ H Q ⟨F, ι, h, ρ, r, en, P⟩ => P H ι Grow.refl r
theorem snd_ts1 {e : E} {p : Expr} (he : PT X p (rT G xa cal e W)) : PTs X [p] (rTs G xa cal (.cons e .nil) W) := PTs.imp (pts_one he) fun σ H Q ⟨F, ι, h, ρ, r, en, P⟩ => by
  simp only [evc] at P
  refine rT_of r en P.bind fun b h1 H1 ι1 P1 g1 r1 => ?_
  cases b with
  | true => exact P1 H1 ι1 g1 r1
  | false => exact P1 H1 ι1 g1 r1
theorem Post.noEr {α : Type} {r : R α} {O : α → Hpp → Prop} {E : Nat → Hpp → Prop} (p : Post (noEr r) O E) : Post r O (fun _ _ => False) := by
  cases r with
  | ok a h => exact p
  | er c h => exact p
  | no => exact p
theorem Post.mono_er {α : Type} {r : R α} {O : α → Hpp → Prop} {E : Nat → Hpp → Prop} (p : Post r O (fun _ _ => False)) : Post r O E := p.imp (fun _ _ z => z) fun _ _ z => z.elim
theorem PS.imp2 {st : Stmt} {t t' : TS} (p : PS X st t) (i : ∀ D σ H, t' D σ H → t D σ H) : PS X st t' := ⟨fun pins s σ H D I q => p.run pins s σ H D I (i _ _ _ q)⟩
theorem comp_red (c : Ctx T G xa cal k N sc fb W X) {th : Bool} {elt : E} {tg : Tg} {it : PL.Itr} {cs : Es} {own : List Nat} (ti : tgIn own tg = true) (r : Rel G F ι H h) (en : EnvR G F ι H ρ σ) (P : Post (ev cal (.comp th elt tg it cs own) ρ h) (okp G F ι H Q) (erx G F xa ι H W)) :
    tLc (rI G xa cal it W) (rG G tg) (rTs G xa cal cs fun _ _ _ _ => False) (rE G xa cal elt fun _ _ _ _ => False) own σ H Q := by
  simp only [ev] at P
  refine ⟨F, ι, h, ρ, r, en, P.bind.imp (fun s h1 P1 J H1 ι1 g1 r1 wk => ?_) fun _ _ z => z⟩
  intro D nD
  split at P1
  rotate_left
  · exact P1.elim
  rename_i short
  have P2 := (Post.from P1 g1).bind.noEr
  have en1 := en.up g1 r.cellsOk
  have ff : ∀ a, (F a ∨ a = D) → F a ∨ H1 a = none := fun a z => by
    rcases z with z | z
    · exact .inl z
    · rw [z]; exact .inr nD
  have nF : ¬ F D := r1.nof nD
  obtain ⟨r2, g2⟩ := r1.updF (o := .lst []) nD
  refine ⟨fun i m H => i + m = s.items.length ∧ ∃ ι h acc vs, Grow H1 ι1 H ι ∧ Rel G (fun a => F a ∨ a = D) ι H h ∧ H D = some (.lst vs) ∧ VRs G (fun a => F a ∨ a = D) ι H acc vs ∧ acc.length ≤ i ∧
    Post (compL s.ok (fun d => sto tg (PL.wipe ρ own) d) (fun ρ h => evc cal cs ρ h) (fun ρ h => ev cal elt ρ h) (s.items.drop i) h) (fun ys h' => Post (new th (acc ++ ys) h') (okp G F ι1 H1 Q) (erx G F xa ι1 H1 W)) (fun _ _ => False),
    ⟨s.items.length, by omega, ι1, h1, [], [], g2, r2, upd_same, rfl, Nat.le_refl _, P2⟩, ?_⟩
  rintro i m H' ⟨him, ι2, h2, acc, vs, gg, rr, hD, ra, hl, PP⟩
  have enw : ∀ {H3 : Hp} {ι3 : List Addr}, Grow H1 ι1 H3 ι3 → EnvR G (fun a => F a ∨ a = D) ι3 H3 (PL.wipe ρ own) (L2.wipe σ own) := fun g => (en1.mono g r1.cellsOk ff).wipe own
  cases m with
  | zero =>
    left
    have hn : s.items.length ≤ i := by omega
    rw [List.drop_eq_nil_of_le hn] at PP
    simp only [compL] at PP
    split at PP
    · rename_i ck
      refine ⟨(wk _ H' ι2 h2 ff gg rr ck i).2 (by omega), ?_⟩
      have PP : Post (new th (acc ++ []) h2) (okp G F ι1 H1 Q) (erx G F xa ι1 H1 W) := PP
      rw [List.append_nil] at PP
      exact made_ok rr (fun a z => .inl z) (.inr rfl) nF nD gg hD ra PP
    · exact PP.elim
  | succ m =>
    right
    have hi : i < s.items.length := by omega
    have hd : s.items.drop i = s.items[i] :: s.items.drop (i + 1) := List.drop_eq_getElem_cons hi
    rw [hd] at PP
    simp only [compL] at PP
    split at PP
    rotate_left
    · exact PP.elim
    rename_i ck
    obtain ⟨go, yl⟩ := (wk _ H' ι2 h2 ff gg rr ck i).1 s.items[i] (List.getElem?_eq_getElem hi)
    refine ⟨go, fun H'' => i + 1 + m = s.items.length ∧ ∃ ι h acc vs, Grow H1 ι1 H'' ι ∧ Rel G (fun a => F a ∨ a = D) ι H'' h ∧ H'' D = some (.lst vs) ∧ VRs G (fun a => F a ∨ a = D) ι H'' acc vs ∧ acc.length ≤ i + 1 ∧
      Post (compL s.ok (fun d => sto tg (PL.wipe ρ own) d) (fun ρ h => evc cal cs ρ h) (fun ρ h => ev cal elt ρ h) (s.items.drop (i + 1)) h) (fun ys h' => Post (new th (acc ++ ys) h') (okp G F ι1 H1 Q) (erx G F xa ι1 H1 W)) (fun _ _ => False),
      fun H'' z => ⟨m, by omega, z⟩, fun x H3 hy => ?_⟩
    obtain ⟨r3, g3, rv⟩ := yl x H3 hy
    have gg3 := gg.trans g3
    split at PP
    · exact PP.elim
    rename_i ρ1 hsto
    have hD3 : H3 D = some (.lst vs) := g3.keep D _ hD (fun z => rr.own D z (.inr rfl))
    have ra3 := ra.up g3 rr.cellsOk
    refine ⟨_, ι2, h2, PL.wipe ρ own, s.items[i], ρ1, r3, enw gg3, rv, hsto, fun σ2 en2 w2 => ⟨?_, ?_⟩⟩
    · rw [w2 own ti]; exact wipe_wipe fun _ z => z
    refine ⟨_, ι2, h2, ρ1, r3, en2, PP.bind.imp (fun b h4 P4 H4 ι4 g4 r4 => ?_) fun _ _ z => z.elim⟩
    have hD4 : H4 D = some (.lst vs) := g4.keep D _ hD3 (fun z => r3.own D z (.inr rfl))
    have ra4 := ra3.up g4 r3.cellsOk
    cases b with
    | false =>
      exact ⟨by omega, ι4, h4, acc, vs, gg3.trans g4, r4, hD4, ra4, by omega, P4⟩
    | true =>
      refine ⟨_, ι4, h4, ρ1, r4, en2.up g4 r3.cellsOk, (Post.bind (show Post (R.bind _ _) _ _ from P4)).imp (fun y h5 P5 v H5 ι5 g5 r5 sv => ?_) fun _ _ z => z.elim⟩
      have hD5 : H5 D = some (.lst vs) := g5.keep D _ hD4 (fun z => r4.own D z (.inr rfl))
      have ra5 := ra4.up g5 r4.cellsOk
      have ni5 : D ∉ ι5 := fun z => r5.own D z (.inr rfl)
      have hlen : (acc ++ [y]).length ≤ i + 1 := by rw [List.length_append]; show acc.length + 1 ≤ _; omega
      refine ⟨vs, hD5, by rw [VRs.length ra5, line_eq]; omega, by omega, ι5, h5, acc ++ [y], vs ++ [v], (gg3.trans (g4.trans g5)).updN nD, r5.updFr (.inr rfl) hD5, upd_same, (ra5.append (VRs.one sv)).updFr (.inr rfl) ni5 hD5, hlen, ?_⟩
      refine P5.bind.imp (fun ys h6 P6 => ?_) fun _ _ z => z
      rw [List.append_assoc]
      exact P6
theorem snd_comp (c : Ctx T G xa cal k N sc fb W X) {th : Bool} {elt : E} {tg : Tg} {it : PL.Itr} {cs : Es} {own : List Nat} {e t i : Expr} {ifs : List Expr} {scope : Scope} {pos : Pos}
    (pi : plain i = true) (ok : blkC N sc scope (ownOf N own) = true) (ti : tgIn own tg = true) (hi : PI X t i (rI G xa cal it W))
    (hg : ∀ X', Ctx T G xa cal k N (relS scope sc) (fbOf scope) (fun _ _ _ _ => False) X' → PG X' t (rG G tg))
    (ht : ∀ X', Ctx T G xa cal k N (relS scope sc) (fbOf scope) (fun _ _ _ _ => False) X' → PTs X' ifs (rTs G xa cal cs fun _ _ _ _ => False))
    (he : ∀ X', Ctx T G xa cal k N (relS scope sc) (fbOf scope) (fun _ _ _ _ => False) X' → PE X' e (rE G xa cal elt fun _ _ _ _ => False)) :
    PE X (.ListComp e [⟨t, i, ifs, 0⟩] scope pos) (rE G xa cal (.comp th elt tg it cs own) W) := by
  have bo : BlkOk X.N X.env.scope scope (ownOf N own) := by rw [c.hN, c.sc]; exact blkOk_by ok
  refine PE.imp (pe_lc c.calm (by rw [c.hN]; exact c.nd) hi bo (fun s H C cl fp => hg _ (c.blk scope s H C cl fp)) (fun s H C cl fp => ht _ (c.blk scope s H C cl fp)) (fun s H C cl fp => he _ (c.blk scope s H C cl fp)) (plain_fold pi X.env)) fun σ H Q ⟨F, ι, h, ρ, r, en, P⟩ => ?_
  rw [ownOf_ix]
  exact comp_red c ti r en P
theorem snd_setComp (c : Ctx T G xa cal k N sc fb W X) {th : Bool} {elt : E} {tg : Tg} {it : PL.Itr} {cs : Es} {own : List Nat} {e t i : Expr} {ifs : List Expr} {scope : Scope} {pos py spos : Pos} {j : Nat} {y : Str}
    (pi : plain i = true) (ok : blkC N sc scope (ownOf N own) = true) (ti : tgIn own tg = true) (hi : PI X t i (rI G xa cal it W))
    (hg : ∀ X', Ctx T G xa cal k N (relS scope sc) (fbOf scope) (fun _ _ _ _ => False) X' → PG X' t (rG G tg))
    (ht : ∀ X', Ctx T G xa cal k N (relS scope sc) (fbOf scope) (fun _ _ _ _ => False) X' → PTs X' ifs (rTs G xa cal cs fun _ _ _ _ => False))
    (he : ∀ X', Ctx T G xa cal k N (relS scope sc) (fbOf scope) (fun _ _ _ _ => False) X' → PE X' e (rE G xa cal elt fun _ _ _ _ => False))
    (hj : N[j]? = some y) (hy : sc.names.lookup y = some .local) (hsw : swapsWith (.ListComp e [⟨t, i, ifs, 0⟩] scope pos) (some (.Name y py)) spos.line X.env = pure true) :
    PS X (.Assign [.Name y py] (.ListComp e [⟨t, i, ifs, 0⟩] scope pos) spos) (tAsg (rE G xa cal (.comp th elt tg it cs own) W) (gName j)) := by
  have bo : BlkOk X.N X.env.scope scope (ownOf N own) := by rw [c.hN, c.sc]; exact blkOk_by ok
  refine PS.imp (ps_setLc c.calm (by rw [c.hN]; exact c.nd) (by rw [c.hN]; exact hj) (by rw [c.sc]; exact hy) hsw hi bo (fun s H C cl fp => hg _ (c.blk scope s H C cl fp)) (fun s H C cl fp => ht _ (c.blk scope s H C cl fp)) (fun s H C cl fp => he _ (c.blk scope s H C cl fp)) (plain_fold pi X.env)) fun D σ H ⟨F, ι, h, ρ, r, en, P⟩ => ?_
  rw [ownOf_ix]
  exact comp_red c ti r en P
end
end PL
end
section
set_option Elab.async false
set_option linter.all false
set_option maxRecDepth 100000
set_option maxHeartbeats 1000000
/-! PLSE: enumerate of a tuple. -/
namespace PL
open PySem PySem.Spec PyProof.Rows L2
open AutoSeq1 (wpAny_loadPart')
set_option maxHeartbeats 4000000 in
theorem meets_enumerate_newT (l : Addr) (items : Array Value) (n : Nat) (dct : Option Addr) (sl : Array (Option Value)) :
    Meets (Builtin.«enumerate.__new__» ⟨[.type "enumerate", .ref l], []⟩) (fun _ R s => s.heap.get? l = some { cls := .type "tuple", dict := dct, data := .seq items n, slots := sl } ∧
      R (.ok (.ret (.ref (s.heap.push { cls := .type "tuple_iterator", data := .fields #[.ref l, .int 0 0] }).objs.size)))
        { s with heap := (s.heap.push { cls := .type "tuple_iterator", data := .fields #[.ref l, .int 0 0] }).push { cls := .type "enumerate", data := .fields #[.none, .bool false, .ref s.heap.objs.size, rawInt 0, .none, .none] } }) :=
  .of_wp fun prog w A R s h => by
    obtain ⟨hp, g, d, tk, os⟩ := s; obtain ⟨hl, h⟩ := h
    have hsub := sub_enumerate
    have hL : Heap.IsTuple (Shared.heap ⟨hp, g, d, tk, os⟩) l items := ⟨_, hl, rfl, n, rfl⟩
    wp_walk using wpAny_loadPart' hl
    refine wpAny_stack_any fun st => wpAny_pure ?_
    split
    · rename_i c _ _ _ _ _
      cases (c == Value.type "enumerate")
      · wp_walk using wpAny_loadPart' hl, wpAny_pyIter_tuple hL
        exact ⟨_, rfl, h⟩
      · wp_walk using wpAny_loadPart' hl, wpAny_pyIter_tuple hL
        exact ⟨_, rfl, h⟩
    · wp_walk using wpAny_loadPart' hl, wpAny_pyIter_tuple hL
      exact ⟨_, rfl, h⟩
theorem call_enumerate_tuple {prog : Program} {w : World} {A : Around} {E : Value → Shared → Prop} {s : Shared} {l : Addr} {items : Array Value} {Q : Value → Shared → Prop} (hL : s.heap.IsTuple l items)
    (h : ∀ h', IsEnum h' (s.heap.objs.size + 1) s.heap.objs.size 0 .none → h'.IsTupleIter s.heap.objs.size l 0 → h'.objs.size = s.heap.objs.size + 2 →
      (∀ b o, s.heap.get? b = some o → h'.get? b = some o) → Q (.ref (s.heap.objs.size + 1)) { s with heap := h' }) :
    wpAny (model prog w) A (call (.type "enumerate") [.ref l]) Q E s := by
  obtain ⟨⟨c, dct, dt, sl⟩, hl, hc, n, hd⟩ := hL
  replace hc : c = .type "tuple" := hc
  replace hd : dt = .seq items n := hd
  subst hc hd
  refine callType_new F.called_enumerate (by decide) (F.typeCall_enumerate_1 _) (F.newCall_enumerate_1 _) (fun obj => F.args_object_init_2 obj _) F.entry_enumerate_new
    (meets_enumerate_newT l items n dct sl) ⟨hl, ?_⟩
  have hz : (s.heap.push { cls := .type "tuple_iterator", data := .fields #[.ref l, .int 0 0] }).objs.size = s.heap.objs.size + 1 := Heap.size_push ..
  show _ ∧ _
  rw [hz]
  have he : IsEnum ((s.heap.push { cls := .type "tuple_iterator", data := .fields #[.ref l, .int 0 0] }).push
      { cls := .type "enumerate", data := .fields #[.none, .bool false, .ref s.heap.objs.size, rawInt 0, .none, .none] }) (s.heap.objs.size + 1) s.heap.objs.size 0 .none := by
    have := Heap.get?_push_size (s.heap.push { cls := .type "tuple_iterator", data := .fields #[.ref l, .int 0 0] })
      (o := { cls := .type "enumerate", data := .fields #[.none, .bool false, .ref s.heap.objs.size, rawInt 0, .none, .none] }) rfl
    rw [hz] at this; exact this
  refine ⟨⟨_, he, rfl⟩, h _ he ⟨_, Heap.get?_push_of_some _ (Heap.get?_push_size _ rfl), rfl, rfl⟩ (by rw [Heap.size_push, hz]) fun b o x => Heap.get?_push_of_some _ (Heap.get?_push_of_some _ x)⟩
theorem KE_draws {prog : Program} {w : World} {A : Around} (hh : A.handled = none) (it t : Addr) (hne : t ≠ it) (items : Array Value) :
    Draws prog w A it [it, t] items.size (fun i v => items[i]? = some v) (fun i h => h.IsTupleIter it t i ∧ h.IsTuple t items) := Draws.tuple hh it t hne items
theorem pyNext_enumT_end {prog : Program} {w : World} {A : Around} {E : Value → Shared → Prop} {s : Shared} {e it l : Addr} {i : Nat} {items : Array Value} {old : Value} {Q : Option Value → Shared → Prop} (hh : A.handled = none)
    (he : IsEnum s.heap e it i old) (hit : s.heap.IsTupleIter it l i) (hl : s.heap.IsTuple l items) (hx : items[i]? = none)
    (hQ : ∀ h', Heap.ExtBut it s.heap h' → Q none { s with heap := h' }) : wpAny (model prog w) A (pyNext (.ref e)) Q E s := by
  have hT : s.TypeIs (.ref e) "enumerate" := ⟨_, he, rfl⟩
  unfold pyNext
  refine wpAny_bind (wpAny_attempt (wpAny_callSpecial?_slot (name := Str.ofString "__next__") hT F.slot_enumerate_next
    (wpAny_call_entry F.slot_enumerate_next hT F.entry_enumerate_next ?_ (F.args_enumerate_next_1 _))))
  show wpAny _ _ (field (.ref e) 2 >>= _) _ _ _
  refine wpAny_bind (wpAny_field he rfl (x := .ref it) rfl ?_)
  refine wpAny_bind (wpAny_nextOf_tuple_end hh hit hl hx fun h' x he' hx' => ?_)
  obtain ⟨o, ho, hc⟩ := hx'
  refine wpAny_bind (wpAny_isInstance (T := "StopIteration") (b := true) ⟨o, ho, hc⟩ isSubtype_stop ?_)
  exact wpAny_pure (hQ _ he')
/-- the tuple at a as it stands at each turn, each item in a new pair -/
def IteT (K : PySem.W.Frag) (a : Addr) : It :=
  ⟨fun i H => ∃ (xs : List V) (x : V), SqT K H a xs ∧ xs[i]? = some x, fun i H v H' => ∃ T x, v = .ref T ∧ H T = none ∧ H' = upd H T (.tup [.int (i : Nat), x]) ∧ ∀ xs, SqT K H a xs → xs[i]? = some x, fun i H => ∃ xs : List V, SqT K H a xs ∧ xs.length ≤ i⟩
theorem turn_enumT {P : Program} {w : World} {K : PySem.W.Frag} {elts : List Expr} {kk : Nat} {tpos : Pos} (a e it : Addr) (hai : a ≠ it) (hae : a ≠ e) :
    Turn P w K (.Tuple elts kk tpos) (IteT K a) [e, it] e (fun i h => (∃ old, IsEnum h e it ((i : Nat) : Int) old) ∧ h.IsTupleIter it a i ∧ e ≠ it) where
  mem := by simp
  obj := fun i h st b hb => by
    obtain ⟨⟨old, he⟩, ⟨o, ho, hc, hd⟩, _⟩ := st
    have e' : b = e ∨ b = it := by simpa using hb
    rcases e' with z | z
    · rw [z]; exact ⟨_, he, fun v q => nomatch q⟩
    · rw [z]; exact ⟨o, ho, fun v q => by rw [hd] at q; cases q⟩
  keep := fun i h h' st k => let ⟨⟨old, he⟩, hi, hne⟩ := st; ⟨⟨old, k e (by simp) _ he⟩, hi.at fun o q => k it (by simp) o q, hne⟩
  item := by
    intro X hP hw hK hc i pins s σ H E I hf st hg
    subst hP hw hK
    obtain ⟨⟨old, he⟩, hit, hne⟩ := st
    obtain ⟨xs, x, hq, hx⟩ := hg
    obtain ⟨its, rv, p, hz⟩ := I.tuple hq
    obtain ⟨u, hu, ru⟩ := rv.get hx
    have hel : e < s.heap.objs.size := Heap.lt_size he
    have hil : it < s.heap.objs.size := by obtain ⟨_, q, _⟩ := hit; exact Heap.lt_size q
    have pt : s.heap.IsTuple a its.toArray := p
    have D := KE_draws (prog := X.prog) (w := X.w) (A := X.A.in1) (I.ok.hd hc) it a hai its.toArray
    refine wpAny_pyNext_enum_itemD D he ⟨hit, pt⟩ (by have := (List.getElem?_eq_some_iff.mp hu).1; simpa using this) hne (by simp [hne, Ne.symm hae]) fun u' h' tk ex ho hst hT hsz hk => ?_
    have eu : u' = u := by
      have e1 : its[i]? = some u' := by simpa using ex
      rw [hu] at e1; cases e1; rfl
    subst eu
    have hit' := hst.1
    refine ⟨_, rfl, wpAny_letOwnedTupleGo_enum (s := { s with heap := h', toks := tk + 1 }) ho fun h'' he' sb => ?_⟩
    have hT2 : h''.get? s.heap.objs.size = some { cls := .type "tuple", data := .seq #[.int i tk, u'] } := (sb.2 _ (Nat.ne_of_gt hel)).trans hT
    have new : ObjOk X.prog X.w (upd H s.heap.objs.size (.tup [.int (i : Nat), x])) h'' s.heap.objs.size (.tup [.int (i : Nat), x]) :=
      ⟨by show 2 ≤ sizeLine; decide, [.int i tk, u'], .cons ⟨_, rfl⟩ (.cons ru .nil), ⟨_, hT2, rfl, _, rfl⟩⟩
    have I1 : Inv X pins σ (upd H s.heap.objs.size (.tup [.int (i : Nat), x])) { s with heap := h'', toks := tk + 1 } :=
      I.turnedNew (t' := tk + 1) (ch := [e, it]) (fun b ob hb q => (sb.2 b (fun z => hb (by simp [z]))).trans (hk b ob (fun z => hb (by simp [z])) (fun z => hb (by simp [z])) q)) hf (Nat.le_refl _) new
    refine ⟨.ref s.heap.objs.size, _, I1, rfl, ⟨_, x, rfl, I.hok.fresh (Nat.le_refl _), rfl, fun ys hy => by rw [I.tuple_inj hy hq]; exact hx⟩, ⟨⟨u', ?_⟩, hit'.at fun o q => (sb.2 it (Ne.symm hne)).trans q, hne⟩, fun b hb => ?_⟩
    · have e1 : ((i + 1 : Nat) : Int) = (i : Int) + 1 := by omega
      rw [e1]; exact he'
    · have hb' : b < s.heap.objs.size := by
        have e' : b = e ∨ b = it := by simpa using hb
        rcases e' with z | z
        · rw [z]; exact hel
        · rw [z]; exact hil
      rw [upd_ne (Nat.ne_of_lt hb')]
      exact (hf b hb).1
  done := by
    intro X hP hw hK hc i pins s σ H E I hf st hg
    subst hP hw hK
    obtain ⟨⟨old, he⟩, hit, hne⟩ := st
    obtain ⟨xs, hq, hx⟩ := hg
    obtain ⟨its, rv, p, hz⟩ := I.tuple hq
    obtain ⟨f0, f1, f2, f3, f4, f5⟩ := hf it (by simp)
    have hl := rv.length
    have pt : s.heap.IsTuple a its.toArray := p
    exact pyNext_enumT_end (I.ok.hd hc) he hit pt (by simp; omega) fun h' eb => ⟨rfl, I.turned (t' := s.toks) (fun b o hb q => eb b o hb q) f0 f1 f3 f4 f5⟩
  self := fun A i s Q E st h => let ⟨⟨_, he⟩, _⟩ := st; wpAny_pyIter_enum he h
def iEnumA (K : PySem.W.Frag) (ta : TA) : TI := fun σ H R => ta σ H fun vs H1 => ∃ a xs, vs = [.ref a] ∧ ((SqL K H1 a xs ∧ R (Ite K a) H1) ∨ (SqT K H1 a xs ∧ R (IteT K a) H1))
theorem pi_enumA {X : Cx} {e : Expr} {ta : TA} {p pos tpos : Pos} {elts : List Expr} {kk : Nat} (hg : Gl X "enumerate") (hm : X.mg "enumerate" = none) (ha : PA X [e] ta) (hs : starEach [e] X.env = [(false, eval e X.env)] := by rfl) :
    PI X (.Tuple elts kk tpos) (.Call (.Name "enumerate" p) [e] [] pos) (iEnumA X.K ta) := by
  refine ⟨fun pins s σ H R I h => ?_⟩
  refine Call_ (ld_blt I hg hm boot_enumerate (PyProof.Rows.callWith_type1 (thn (ha.run pos pins s σ H _ I h) fun us s1 ⟨vs, H1, I1, r1, q1⟩ => ?_) hs rfl))
  obtain ⟨a, xs, ex, q⟩ := q1
  subst ex
  cases r1 with
  | cons r rr =>
    cases rr
    cases r
    have fr : ∀ b, b ∈ [s1.heap.objs.size + 1, s1.heap.objs.size] → FpOk X pins H1 b := fun b hb => by
      have e' : b = s1.heap.objs.size + 1 ∨ b = s1.heap.objs.size := by simpa using hb
      have hle : s1.heap.objs.size ≤ b := by
        rcases e' with z | z
        · rw [z]; exact Nat.le_add_right _ _
        · rw [z]; exact Nat.le_refl _
      exact I1.fpOk hle (I1.hok.fresh hle)
    rcases q with ⟨hq, q⟩ | ⟨hq, q⟩
    · obtain ⟨its, rv, p', hz⟩ := I1.list hq
      refine call_enumerate_list p'.isList fun h' he hit hsz hk => wpAny_pyIter_enum he ?_
      have I2 : Inv X pins σ H1 { s1 with heap := h' } := I1.kept (t' := s1.toks) hk
      exact ⟨s1.heap.objs.size + 1, [s1.heap.objs.size + 1, s1.heap.objs.size], _, _, H1, rfl, I2, turn_enum a (s1.heap.objs.size + 1) s1.heap.objs.size, ⟨⟨.none, he⟩, hit, Nat.succ_ne_self _⟩, fr, q⟩
    · obtain ⟨its, rv, p', hz⟩ := I1.tuple hq
      have pt : s1.heap.IsTuple a its.toArray := p'
      have al : a < s1.heap.objs.size := by obtain ⟨_, z, _⟩ := id pt; exact Heap.lt_size z
      refine call_enumerate_tuple pt fun h' he hit hsz hk => wpAny_pyIter_enum he ?_
      have I2 : Inv X pins σ H1 { s1 with heap := h' } := I1.kept (t' := s1.toks) hk
      exact ⟨s1.heap.objs.size + 1, [s1.heap.objs.size + 1, s1.heap.objs.size], _, _, H1, rfl, I2, turn_enumT a (s1.heap.objs.size + 1) s1.heap.objs.size (Nat.ne_of_lt al) (Nat.ne_of_lt (Nat.lt_succ_of_lt al)), ⟨⟨.none, he⟩, hit, Nat.succ_ne_self _⟩, fr, q⟩
end PL
end
section
set_option Elab.async false
set_option linter.all false
set_option maxRecDepth 100000
set_option maxHeartbeats 1000000
/-! PLSZ: zip of rows of any kind, list or tuple. -/
namespace PL
open PySem PySem.Spec PyProof.Rows L2
def SqB (t : Bool) (K : PySem.W.Frag) (H : Hp) (a : Addr) (xs : List V) : Prop := match t with
  | true => SqT K H a xs
  | false => SqL K H a xs
def HasB (t : Bool) (h : Heap) (a : Addr) (items : Array Value) : Prop := match t with
  | true => h.IsTuple a items
  | false => h.IsList a items
def IterB (t : Bool) (h : Heap) (it a : Addr) (i : Nat) : Prop := match t with
  | true => h.IsTupleIter it a i
  | false => h.IsListIter it a i
theorem sqB_has {t : Bool} {X : Cx} {pins : List (Addr × Obj)} {σ : L2.St} {H : Hp} {s : Shared} (I : L2.Inv X pins σ H s) {a : Addr} {xs : List V} (q : SqB t X.K H a xs) : ∃ its : List Value, Vals xs its ∧ HasB t s.heap a its.toArray ∧ a < s.heap.objs.size := by
  cases t with
  | true =>
    obtain ⟨its, rv, p, _⟩ := I.tuple q
    have pt : s.heap.IsTuple a its.toArray := p
    exact ⟨its, rv, pt, by obtain ⟨_, z, _⟩ := id pt; exact Heap.lt_size z⟩
  | false =>
    obtain ⟨its, rv, p, _⟩ := I.list q
    exact ⟨its, rv, p.isList, p.lt⟩
theorem sqB_inj {t : Bool} {X : Cx} {pins : List (Addr × Obj)} {σ : L2.St} {H : Hp} {s : Shared} (I : L2.Inv X pins σ H s) {a : Addr} {xs ys : List V} (q : SqB t X.K H a xs) (p : SqB t X.K H a ys) : xs = ys := by
  cases t with
  | true => exact I.tuple_inj q p
  | false => exact I.list_inj q p
theorem IterB.at_ {t : Bool} {h h' : Heap} {it a : Addr} {i : Nat} (x : IterB t h it a i) (k : ∀ o, h.get? it = some o → h'.get? it = some o) : IterB t h' it a i := by
  cases t with
  | true => exact Heap.IsTupleIter.at x k
  | false => exact Heap.IsListIter.at x k
theorem IterB.obj {t : Bool} {h : Heap} {it a : Addr} {i : Nat} (x : IterB t h it a i) : ∃ o, h.get? it = some o ∧ ∃ fs, o.data = .fields fs := by
  cases t with
  | true => obtain ⟨o, e, _, d⟩ := x; exact ⟨o, e, _, d⟩
  | false => obtain ⟨o, e, _, d⟩ := x; exact ⟨o, e, _, d⟩
theorem drawsB {prog : Program} {w : World} {A : Around} (t : Bool) (hh : A.handled = none) (it l : Addr) (hne : l ≠ it) (items : Array Value) :
    Draws prog w A it [it, l] items.size (fun i v => items[i]? = some v) (fun i h => IterB t h it l i ∧ HasB t h l items) := by
  cases t with
  | true => exact Draws.tuple hh it l hne items
  | false => exact Draws.list hh it l hne items
/-- what stands apart -/
structure ApartB (z TI TO i1 i2 a b : Addr) : Prop where
  S : ZipSep2 z TI TO i1 i2 [i1, a] [i2, b]
  ai : a ≠ i1
  bi : b ≠ i2
def ItzB (ta tb : Bool) (K : PySem.W.Frag) (a b : Addr) : It :=
  ⟨fun i H => ∃ (xs ys : List V) (x y : V), SqB ta K H a xs ∧ SqB tb K H b ys ∧ xs[i]? = some x ∧ ys[i]? = some y,
    fun i H v H' => ∃ T x y, v = .ref T ∧ H T = none ∧ H' = upd H T (.tup [x, y]) ∧ (∀ xs, SqB ta K H a xs → xs[i]? = some x) ∧ ∀ ys, SqB tb K H b ys → ys[i]? = some y,
    fun i H => ∃ xs ys : List V, SqB ta K H a xs ∧ SqB tb K H b ys ∧ i ≤ xs.length ∧ i ≤ ys.length ∧ (xs.length ≤ i ∨ ys.length ≤ i)⟩
theorem turn_zipB {P : Program} {w : World} {K : PySem.W.Frag} {elts : List Expr} {kk : Nat} {tpos : Pos} {ta tb : Bool} {a b z TI TO i1 i2 : Addr} (D : ApartB z TI TO i1 i2 a b) :
    Turn P w K (.Tuple elts kk tpos) (ItzB ta tb K a b) [z, TI, TO, i1, i2] z (fun i h => IsZip h z TI TO .none ∧ IsPair h TI (.ref i1) (.ref i2) ∧ (∃ x y, IsPair h TO x y) ∧ IterB ta h i1 a i ∧ IterB tb h i2 b i) where
  mem := by simp
  obj := fun i h st c hc => by
    obtain ⟨hz, hTI, ⟨x, y, hTO⟩, h1, h2⟩ := st
    obtain ⟨o1, e1, _, d1⟩ := h1.obj
    obtain ⟨o2, e2, _, d2⟩ := h2.obj
    have cc : c = z ∨ c = TI ∨ c = TO ∨ c = i1 ∨ c = i2 := by simpa using hc
    rcases cc with rfl | rfl | rfl | rfl | rfl
    · exact ⟨_, hz, fun v q => nomatch q⟩
    · exact ⟨_, hTI, fun v q => nomatch q⟩
    · exact ⟨_, hTO, fun v q => nomatch q⟩
    · exact ⟨o1, e1, fun v q => by rw [d1] at q; cases q⟩
    · exact ⟨o2, e2, fun v q => by rw [d2] at q; cases q⟩
  keep := fun i h h' st k => by
    obtain ⟨hz, hTI, ⟨x, y, hTO⟩, h1, h2⟩ := st
    exact ⟨k z (by simp) _ hz, k TI (by simp) _ hTI, ⟨x, y, k TO (by simp) _ hTO⟩, h1.at_ fun o q => k i1 (by simp) o q, h2.at_ fun o q => k i2 (by simp) o q⟩
  item := by
    intro X hP hw hK hc i pins s σ H E I hf st hg
    subst hP hw hK
    obtain ⟨hz, hTI, ⟨x0, y0, hTO⟩, h1, h2⟩ := st
    obtain ⟨xs, ys, x, y, hqx, hqy, hx, hy⟩ := hg
    obtain ⟨its, rv, p, _⟩ := sqB_has I hqx
    obtain ⟨its2, rv2, p2, _⟩ := sqB_has I hqy
    obtain ⟨u, hu, ru⟩ := rv.get hx
    obtain ⟨u2, hu2, ru2⟩ := rv2.get hy
    have S := D.S
    have hzl : z < s.heap.objs.size := Heap.lt_size hz
    have D1 := drawsB (prog := X.prog) (w := X.w) (A := X.A.in1) ta (I.ok.hd hc) i1 a D.ai its.toArray
    have D2 := drawsB (prog := X.prog) (w := X.w) (A := X.A.in1) tb (I.ok.hd hc) i2 b D.bi its2.toArray
    have l1 : i < its.toArray.size := by have := (List.getElem?_eq_some_iff.mp hu).1; simpa using this
    have l2 : i < its2.toArray.size := by have := (List.getElem?_eq_some_iff.mp hu2).1; simpa using this
    refine wpAny_pyNext_zipD2_item S D1 D2 hz hTI hTO ⟨h1, p⟩ ⟨h2, p2⟩ l1 l2 fun v1 v2 h' tk ex1 ex2 z' TO' st1 st2 hT hsz hk => ?_
    have eu : v1 = u := by
      have e1 : its[i]? = some v1 := by simpa using ex1
      rw [hu] at e1; cases e1; rfl
    have eu2 : v2 = u2 := by
      have e1 : its2[i]? = some v2 := by simpa using ex2
      rw [hu2] at e1; cases e1; rfl
    subst eu eu2
    refine ⟨_, rfl, wpAny_letOwnedTupleGo_zip (s := { s with heap := h', toks := tk }) z' fun h'' z'' sb => ?_⟩
    have hT2 : h''.get? s.heap.objs.size = some { cls := .type "tuple", data := .seq #[v1, v2] } := (sb.2 _ (Nat.ne_of_gt hzl)).trans hT
    have new : ObjOk X.prog X.w (upd H s.heap.objs.size (.tup [x, y])) h'' s.heap.objs.size (.tup [x, y]) :=
      ⟨by show 2 ≤ sizeLine; decide, [v1, v2], .cons ru (.cons ru2 .nil), ⟨_, hT2, rfl, _, rfl⟩⟩
    have far : ∀ c ob, c ∉ [z, TI, TO, i1, i2] → s.heap.get? c = some ob → h''.get? c = some ob := fun c ob hb q =>
      (sb.2 c (fun q' => hb (by simp [q']))).trans (hk c ob (fun q' => hb (by simp [q'])) (fun q' => hb (by simp [q'])) (fun q' => hb (by simp [q'])) (fun q' => hb (by simp [q'])) q)
    have I1 : Inv X pins σ (upd H s.heap.objs.size (.tup [x, y])) { s with heap := h'', toks := tk } := I.turnedNew (t' := tk) (ch := [z, TI, TO, i1, i2]) far hf (Nat.le_refl _) new
    refine ⟨.ref s.heap.objs.size, _, I1, rfl, ⟨_, x, y, rfl, I.hok.fresh (Nat.le_refl _), rfl, fun l hl => by rw [sqB_inj I hl hqx]; exact hx, fun l hl => by rw [sqB_inj I hl hqy]; exact hy⟩, ⟨z'', ?_, ⟨v1, v2, ?_⟩, ?_, ?_⟩, fun c hcm => ?_⟩
    · exact (sb.2 _ S.TIz).trans (hk _ _ S.TIz S.TITO S.TIi1 S.TIi2 hTI)
    · exact (sb.2 _ S.TOz).trans TO'
    · exact st1.1.at_ fun o q => (sb.2 _ (Ne.symm S.zi1)).trans q
    · exact st2.1.at_ fun o q => (sb.2 _ (Ne.symm S.zi2)).trans q
    · have hlt : c < s.heap.objs.size := by
        have cc : c = z ∨ c = TI ∨ c = TO ∨ c = i1 ∨ c = i2 := by simpa using hcm
        obtain ⟨o1, e1, _⟩ := h1.obj
        obtain ⟨o2, e2, _⟩ := h2.obj
        rcases cc with rfl | rfl | rfl | rfl | rfl
        · exact hzl
        · exact Heap.lt_size hTI
        · exact Heap.lt_size hTO
        · exact Heap.lt_size e1
        · exact Heap.lt_size e2
      rw [upd_ne (Nat.ne_of_lt hlt)]
      exact (hf c hcm).1
  done := by
    intro X hP hw hK hc i pins s σ H E I hf st hg
    subst hP hw hK
    obtain ⟨hz, hTI, ⟨x0, y0, hTO⟩, h1, h2⟩ := st
    obtain ⟨xs, ys, hqx, hqy, le1, le2, hend⟩ := hg
    obtain ⟨its, rv, p, _⟩ := sqB_has I hqx
    obtain ⟨its2, rv2, p2, _⟩ := sqB_has I hqy
    have l1 := rv.length
    have l2 := rv2.length
    have s1 : its.toArray.size = its.length := by simp
    have s2 : its2.toArray.size = its2.length := by simp
    have D1 := drawsB (prog := X.prog) (w := X.w) (A := X.A.in1) ta (I.ok.hd hc) i1 a D.ai its.toArray
    have D2 := drawsB (prog := X.prog) (w := X.w) (A := X.A.in1) tb (I.ok.hd hc) i2 b D.bi its2.toArray
    exact wpAny_pyNext_zipD2_end D.S D1 D2 hz hTI hTO ⟨h1, p⟩ ⟨h2, p2⟩ (by omega) (by omega) (by omega) fun h' tk hk => ⟨rfl, I.turnedL (t' := tk) (ch := [z, TI, TO, i1, i2]) (fun c o hb q =>
      hk c o (fun q' => hb (by simp [q'])) (fun q' => hb (by simp [q'])) (fun q' => hb (by simp [q'])) (fun q' => hb (by simp [q'])) q) hf⟩
  self := fun A i s Q E st h => wpAny_pyIter_zip st.1 h
/-! the making -/
def itName (t : Bool) : String := match t with
  | true => "tuple_iterator"
  | false => "list_iterator"
abbrev zbH1 (c1 : String) (h : Heap) (l1 : Addr) : Heap := h.push { cls := .type c1, data := .fields #[.ref l1, .int 0 0] }
abbrev zbH2 (c1 c2 : String) (h : Heap) (l1 l2 : Addr) : Heap := (zbH1 c1 h l1).push { cls := .type c2, data := .fields #[.ref l2, .int 0 0] }
abbrev zbH3 (c1 c2 : String) (h : Heap) (l1 l2 : Addr) : Heap := (zbH2 c1 c2 h l1 l2).push { cls := .type "tuple", data := .seq #[.ref h.objs.size, .ref (zbH1 c1 h l1).objs.size] }
abbrev zbH4 (c1 c2 : String) (h : Heap) (l1 l2 : Addr) : Heap := (zbH3 c1 c2 h l1 l2).push { cls := .type "tuple", data := .seq #[.none, .none] }
abbrev zbH5 (c1 c2 : String) (h : Heap) (l1 l2 : Addr) : Heap := (zbH4 c1 c2 h l1 l2).push { cls := .type "zip", data := .fields #[.none, .bool false, .bool false, .ref (zbH2 c1 c2 h l1 l2).objs.size, .ref (zbH3 c1 c2 h l1 l2).objs.size] }
theorem meets_zipTL (l1 l2 : Addr) (xs ys : Array Value) :
    Meets (Builtin.«zip.__new__» ⟨[.type "zip", .ref l1, .ref l2], []⟩) (fun _ R s => s.heap.IsTuple l1 xs ∧ s.heap.IsList l2 ys ∧
      R (.ok (.ret (.ref (zbH4 "tuple_iterator" "list_iterator" s.heap l1 l2).objs.size))) { s with heap := zbH5 "tuple_iterator" "list_iterator" s.heap l1 l2 }) :=
  .of_wp fun prog w A R s h => by
    obtain ⟨hp, g, d, tk, os⟩ := s; obtain ⟨hl1, hl2, h⟩ := h
    have hsub := sub_zip
    have hL1 : Heap.IsTuple (Shared.heap ⟨hp, g, d, tk, os⟩) l1 xs := hl1
    have hL2 : Heap.IsList (Shared.heap ⟨zbH1 "tuple_iterator" hp l1, g, d, tk, os⟩) l2 ys := Heap.IsList.push hl2 _
    wp_walk using wpAny_pyIter_tuple hL1, wpAny_pyIter_list hL2
    exact ⟨_, rfl, h⟩
theorem meets_zipLT (l1 l2 : Addr) (xs ys : Array Value) :
    Meets (Builtin.«zip.__new__» ⟨[.type "zip", .ref l1, .ref l2], []⟩) (fun _ R s => s.heap.IsList l1 xs ∧ s.heap.IsTuple l2 ys ∧
      R (.ok (.ret (.ref (zbH4 "list_iterator" "tuple_iterator" s.heap l1 l2).objs.size))) { s with heap := zbH5 "list_iterator" "tuple_iterator" s.heap l1 l2 }) :=
  .of_wp fun prog w A R s h => by
    obtain ⟨hp, g, d, tk, os⟩ := s; obtain ⟨hl1, hl2, h⟩ := h
    have hsub := sub_zip
    have hL1 : Heap.IsList (Shared.heap ⟨hp, g, d, tk, os⟩) l1 xs := hl1
    have hL2 : Heap.IsTuple (Shared.heap ⟨zbH1 "list_iterator" hp l1, g, d, tk, os⟩) l2 ys := Heap.IsTuple.push hl2 _
    wp_walk using wpAny_pyIter_list hL1, wpAny_pyIter_tuple hL2
    exact ⟨_, rfl, h⟩
theorem meets_zipB (ta tb : Bool) (l1 l2 : Addr) (xs ys : Array Value) :
    Meets (Builtin.«zip.__new__» ⟨[.type "zip", .ref l1, .ref l2], []⟩) (fun _ R s => HasB ta s.heap l1 xs ∧ HasB tb s.heap l2 ys ∧
      R (.ok (.ret (.ref (zbH4 (itName ta) (itName tb) s.heap l1 l2).objs.size))) { s with heap := zbH5 (itName ta) (itName tb) s.heap l1 l2 }) := by
  cases ta <;> cases tb
  · exact meets_zip_new l1 l2 xs ys
  · exact meets_zipLT l1 l2 xs ys
  · exact meets_zipTL l1 l2 xs ys
  · exact RZ.meets_zipT_new l1 l2 xs ys
theorem iterB_new {t : Bool} {h : Heap} {it l : Addr} (e : h.get? it = some { cls := .type (itName t), data := .fields #[.ref l, .int 0 0] }) : IterB t h it l 0 := by
  cases t with
  | true => exact ⟨_, e, rfl, rfl⟩
  | false => exact ⟨_, e, rfl, rfl⟩
theorem call_zipB {prog : Program} {w : World} {A : Around} {E : Value → Shared → Prop} {s : Shared} (ta tb : Bool) {l1 l2 : Addr} {xs ys : Array Value} {Q : Value → Shared → Prop} (hl1 : HasB ta s.heap l1 xs) (hl2 : HasB tb s.heap l2 ys)
    (h : ∀ h', IsZip h' (s.heap.objs.size + 4) (s.heap.objs.size + 2) (s.heap.objs.size + 3) .none → IsPair h' (s.heap.objs.size + 2) (.ref s.heap.objs.size) (.ref (s.heap.objs.size + 1)) →
      IsPair h' (s.heap.objs.size + 3) .none .none → IterB ta h' s.heap.objs.size l1 0 → IterB tb h' (s.heap.objs.size + 1) l2 0 →
      (∀ c o, s.heap.get? c = some o → h'.get? c = some o) → Q (.ref (s.heap.objs.size + 4)) { s with heap := h' }) :
    wpAny (model prog w) A (call (.type "zip") [.ref l1, .ref l2]) Q E s := by
  refine callType_new F.called_zip (by decide) (F.typeCall_zip_2 _ _) (F.newCall_zip_2 _ _) (fun obj => F.args_object_init_3 obj _ _) F.entry_zip_new
    (meets_zipB ta tb l1 l2 xs ys) ⟨hl1, hl2, ?_⟩
  have z1 : (zbH1 (itName ta) s.heap l1).objs.size = s.heap.objs.size + 1 := Heap.size_push ..
  have z2 : (zbH2 (itName ta) (itName tb) s.heap l1 l2).objs.size = s.heap.objs.size + 2 := by rw [Heap.size_push, z1]
  have z3 : (zbH3 (itName ta) (itName tb) s.heap l1 l2).objs.size = s.heap.objs.size + 3 := by rw [Heap.size_push, z2]
  have z4 : (zbH4 (itName ta) (itName tb) s.heap l1 l2).objs.size = s.heap.objs.size + 4 := by rw [Heap.size_push, z3]
  have g5 : (zbH5 (itName ta) (itName tb) s.heap l1 l2).get? (zbH4 (itName ta) (itName tb) s.heap l1 l2).objs.size = some _ := Heap.get?_push_size _ rfl
  have g4 : (zbH5 (itName ta) (itName tb) s.heap l1 l2).get? (zbH3 (itName ta) (itName tb) s.heap l1 l2).objs.size = some _ := Heap.get?_push_of_some _ (Heap.get?_push_size _ rfl)
  have g3 : (zbH5 (itName ta) (itName tb) s.heap l1 l2).get? (zbH2 (itName ta) (itName tb) s.heap l1 l2).objs.size = some _ := Heap.get?_push_of_some _ (Heap.get?_push_of_some _ (Heap.get?_push_size _ rfl))
  have g2 : (zbH5 (itName ta) (itName tb) s.heap l1 l2).get? (zbH1 (itName ta) s.heap l1).objs.size = some _ := Heap.get?_push_of_some _ (Heap.get?_push_of_some _ (Heap.get?_push_of_some _ (Heap.get?_push_size _ rfl)))
  have g1 : (zbH5 (itName ta) (itName tb) s.heap l1 l2).get? s.heap.objs.size = some _ := Heap.get?_push_of_some _ (Heap.get?_push_of_some _ (Heap.get?_push_of_some _ (Heap.get?_push_of_some _ (Heap.get?_push_size _ rfl))))
  show _ ∧ _
  rw [z2, z3, z4] at g5
  rw [z1, z2] at g3
  rw [z3] at g4
  rw [z1] at g2
  rw [z4]
  exact ⟨⟨_, g5, rfl⟩, h _ g5 g3 g4 (iterB_new g1) (iterB_new g2) fun c o x =>
    Heap.get?_push_of_some _ (Heap.get?_push_of_some _ (Heap.get?_push_of_some _ (Heap.get?_push_of_some _ (Heap.get?_push_of_some _ x))))⟩
theorem far_of {m k : Nat} {a : Nat} (lt : a < m) (e : m + k = a) : False := by omega
theorem apart_new {m a b : Nat} (a1 : a < m) (b1 : b < m) : ApartB (m + 4) (m + 2) (m + 3) m (m + 1) a b := by
  have e42 : ¬ (m + 2 = m + 4) := by omega
  have e43 : ¬ (m + 3 = m + 4) := by omega
  have e23 : ¬ (m + 2 = m + 3) := by omega
  have e20 : ¬ (m + 2 = m) := by omega
  have e40 : ¬ (m + 4 = m) := by omega
  have e30 : ¬ (m + 3 = m) := by omega
  have e21 : ¬ (m + 2 = m + 1) := by omega
  have e41 : ¬ (m + 4 = m + 1) := by omega
  have e31 : ¬ (m + 3 = m + 1) := by omega
  have e01 : ¬ (m = m + 1) := by omega
  have e10 : ¬ (m + 1 = m) := by omega
  have m4 : ∀ {x : Nat}, x < m → ¬ (m + 4 = x) := fun h e => far_of h e
  have m3 : ∀ {x : Nat}, x < m → ¬ (m + 3 = x) := fun h e => far_of h e
  have m1 : ∀ {x : Nat}, x < m → ¬ (m + 1 = x) := fun h e => far_of h e
  have m0 : ∀ {x : Nat}, x < m → ¬ (m = x) := fun h e => far_of (k := 0) h e
  have two : ∀ {x y z : Addr}, ¬ x = y → ¬ x = z → x ∉ [y, z] := fun h1 h2 h => by
    simp only [List.mem_cons, List.not_mem_nil, or_false] at h
    exact h.elim h1 h2
  exact ⟨⟨e42, e43, e23, e20, by simp, two e40 (m4 a1), two e30 (m3 a1), e21, by simp, two e41 (m4 b1), two e31 (m3 b1), two e01 (m0 b1), two e10 (m1 a1)⟩, fun e => m0 a1 e.symm, fun e => m1 b1 e.symm⟩
def iZipB (K : PySem.W.Frag) (u : TA) : TI := fun σ H R => u σ H fun vs H1 => ∃ ta tb a b xs ys, vs = [.ref a, .ref b] ∧ SqB ta K H1 a xs ∧ SqB tb K H1 b ys ∧ R (ItzB ta tb K a b) H1
theorem pi_zipB {X : Cx} {e e2 : Expr} {u : TA} {p pos tpos : Pos} {elts : List Expr} {kk : Nat} (hg : Gl X "zip") (hm : X.mg "zip" = none) (ha : PA X [e, e2] u)
    (hs : starEach [e, e2] X.env = (false, eval e X.env) :: starEach [e2] X.env := by rfl) (hpl : (backTo pos (starEach [e2] X.env)).any (·.1) = false := by rfl) :
    PI X (.Tuple elts kk tpos) (.Call (.Name "zip" p) [e, e2] [] pos) (iZipB X.K u) := by
  refine ⟨fun pins s σ H R I h => ?_⟩
  refine Call_ (ld_blt I hg hm PyProof.Rows.boot_zip (PyProof.Rows.callWith_type1 (thn (ha.run pos pins s σ H _ I h) fun us s1 ⟨vs, H1, I1, r1, q1⟩ => ?_) hs hpl))
  obtain ⟨ta, tb, a, b, xs, ys, ex, hqx, hqy, q⟩ := q1
  subst ex
  cases r1 with
  | cons r rr =>
    cases rr with
    | cons r' rr =>
      cases rr
      cases r
      cases r'
      have fresh5 : ∀ c, c ∈ [s1.heap.objs.size + 4, s1.heap.objs.size + 2, s1.heap.objs.size + 3, s1.heap.objs.size, s1.heap.objs.size + 1] → FpOk X pins H1 c := fun c hcm => by
        have hle : s1.heap.objs.size ≤ c := by
          simp only [List.mem_cons, List.not_mem_nil, or_false] at hcm
          rcases hcm with z | z | z | z | z <;> rw [z] <;> first | exact Nat.le_add_right _ _ | exact Nat.le_refl _
        exact I1.fpOk hle (I1.hok.fresh hle)
      obtain ⟨its, rv, p1, a1⟩ := sqB_has I1 hqx
      obtain ⟨its2, rv2, p2, b1⟩ := sqB_has I1 hqy
      have AP : ApartB (s1.heap.objs.size + 4) (s1.heap.objs.size + 2) (s1.heap.objs.size + 3) s1.heap.objs.size (s1.heap.objs.size + 1) a b := by
        exact apart_new a1 b1
      refine call_zipB ta tb p1 p2 fun h' hz hTI hTO h1 h2 hk => wpAny_pyIter_zip hz ?_
      have I2 : Inv X pins σ H1 { s1 with heap := h' } := I1.kept (t' := s1.toks) hk
      exact ⟨s1.heap.objs.size + 4, [s1.heap.objs.size + 4, s1.heap.objs.size + 2, s1.heap.objs.size + 3, s1.heap.objs.size, s1.heap.objs.size + 1], _, _, H1, rfl, I2, turn_zipB AP, ⟨hz, hTI, ⟨_, _, hTO⟩, h1, h2⟩, fresh5, q⟩
end PL
end
section
set_option Elab.async false
set_option linter.all false
set_option maxRecDepth 100000
set_option maxHeartbeats 1000000
/-! PLS12: enumerate, zip; all expressions together. -/
namespace PL
open PySem PySem.Spec PyProof.Rows L2
section
variable {T : Tab} {G : Ge} {xa : Nat → Addr} {cal : Cal} {k : Nat} {N : List Str} {sc : Scope} {fb : Str → Bool} {W : WX} {X : Cx} {F : Addr → Prop} {ι : List Addr} {H : Hp} {h : Hpp} {ρ : List (Option D)} {σ : L2.St} {Q : VK}
theorem enum_get : ∀ (xs : List D) (j i : Nat), (enumL j xs)[i]? = match xs[i]? with
    | some d => some (.tup [.int ((j + i : Nat) : Int), d])
    | none => none
  | [], j, i => by simp [enumL]
  | x :: xs, j, 0 => by simp [enumL]
  | x :: xs, j, i + 1 => by
    have e := enum_get xs (j + 1) i
    simp only [enumL, List.getElem?_cons_succ]
    rw [e, show j + 1 + i = j + (i + 1) by omega]
theorem enum_len : ∀ (xs : List D) (j : Nat), (enumL j xs).length = xs.length
  | [], _ => rfl
  | x :: xs, j => by simp [enumL, enum_len xs (j + 1)]
theorem zip_get : ∀ (xs ys : List D) (i : Nat), (zipL xs ys)[i]? = match xs[i]?, ys[i]? with
    | some x, some y => some (.tup [x, y])
    | _, _ => none
  | [], ys, i => by simp [zipL]
  | x :: xs, [], i => by
    simp only [zipL, List.getElem?_nil]
    cases (x :: xs)[i]? <;> rfl
  | x :: xs, y :: ys, 0 => by simp [zipL]
  | x :: xs, y :: ys, i + 1 => by
    simp only [zipL, List.getElem?_cons_succ]
    exact zip_get xs ys i
theorem zip_len : ∀ (xs ys : List D), (zipL xs ys).length = min xs.length ys.length
  | [], ys => by simp [zipL]
  | x :: xs, [] => by simp [zipL]
  | x :: xs, y :: ys => by simp [zipL, zip_len xs ys]
theorem pair_ok {T : Addr} {a b : D} {x y : V} (r : Rel G F ι H h) (n : H T = none) (ra : VR G F ι H a x) (rb : VR G F ι H b y) : Rel G F ι (L2.upd H T (.tup [x, y])) h ∧ Grow H ι (L2.upd H T (.tup [x, y])) ι ∧ VR G F ι (L2.upd H T (.tup [x, y])) (.tup [a, b]) (.ref T) := by
  obtain ⟨r', g⟩ := r.upd (o := .tup [x, y]) n
  exact ⟨r', g, T, [x, y], rfl, .inl (.inl upd_same), VRs.two (VR.up g r.cellsOk ra) (VR.up g r.cellsOk rb)⟩
def LAt (G : Ge) (F : Addr → Prop) (H : Hp) (ι : List Addr) (xs : List D) (hl : List (Nat × Cell)) (a : Addr) : Prop := ∀ (F' : Addr → Prop) (H' : Hp) (ι' : List Addr) (h' : Hpp), (∀ a, F' a → F a ∨ H a = none) → Grow H ι H' ι' → Rel G F' ι' H' h' → (hl.all fun p => decide (h'[p.1]? = some p.2)) = true → ∃ vs, SqL G.K H' a vs ∧ VRs G F' ι' H' xs vs
def TAt (G : Ge) (F : Addr → Prop) (H : Hp) (ι : List Addr) (xs : List D) (a : Addr) : Prop := ∀ (F' : Addr → Prop) (H' : Hp) (ι' : List Addr) (h' : Hpp), (∀ a, F' a → F a ∨ H a = none) → Grow H ι H' ι' → Rel G F' ι' H' h' → ∃ vs, SqT G.K H' a vs ∧ VRs G F' ι' H' xs vs
theorem ls_at {d : D} {v : V} {xs : List D} (r : Rel G F ι H h) (rv : VR G F ι H d v) (e : lsOf d h = some xs) : ∃ a, v = .ref a ∧ LAt G F H ι xs (heldOf d h) a := by
  cases d with
  | fl ys =>
    cases e
    obtain ⟨a, vs, rfl, ⟨t, n, _⟩, u⟩ := rv
    exact ⟨a, rfl, fun F' H' ι' h' f g r' _ => ⟨vs, SqL.of (g.keep a _ t n), VRs.mono g r.cellsOk f u⟩⟩
  | ref n =>
    obtain ⟨a, rfl, i⟩ := rv
    refine ⟨a, rfl, fun F' H' ι' h' f g r' ok => ?_⟩
    unfold lsOf lstOf at e
    simp only at e
    split at e
    · rename_i ys hn
      cases e
      have e2 : h'[n]? = some (.lst xs) := by
        simp only [heldOf, hn, List.all_cons, List.all_nil, Bool.and_true] at ok
        exact of_decide_eq_true ok
      obtain ⟨vs, t, w⟩ := r'.cells n a _ (g.at i) e2
      exact ⟨vs, SqL.of t, w⟩
    · cases e
  | sc is =>
    cases e
    obtain ⟨a, rfl, t⟩ := rv
    refine ⟨a, rfl, fun F' H' ι' h' f g r' _ => ⟨_, ?_, VRs.ints⟩⟩
    rcases t with t | ⟨t, n, _⟩
    · exact .inr t
    · exact .inl (g.rd n t)
  | tup _ => cases e
  | non => cases e
  | bl _ => cases e
  | int _ => cases e
  | str _ => cases e
  | fn _ => cases e
theorem tup_at {v : V} {xs : List D} (r : Rel G F ι H h) (rv : VR G F ι H (.tup xs) v) : ∃ a, v = .ref a ∧ TAt G F H ι xs a := by
  obtain ⟨a, vs, rfl, t, u⟩ := rv
  exact ⟨a, rfl, fun F' H' ι' h' f g r' => ⟨vs, SqT.grow g r.cellsOk t, VRs.mono g r.cellsOk f u⟩⟩
theorem seqOf_ls {d : D} {xs : List D} (e : seqOf d h = some xs) : (∃ ys, d = .tup ys ∧ xs = ys) ∨ lsOf d h = some xs := by
  cases d with
  | tup ys => cases e; exact .inl ⟨_, rfl, rfl⟩
  | non => cases e
  | bl _ => cases e
  | int _ => cases e
  | str _ => cases e
  | fn _ => cases e
  | fl _ => exact .inr e
  | ref _ => exact .inr e
  | sc _ => exact .inr e
theorem snd_enum (c : Ctx T G xa cal k N sc fb W X) {a : E} {x : Expr} {elts : List Expr} {kk : Nat} {q pos tpos : Pos} (gl : glC sc "enumerate" = true) (px : plain x = true) (ha : PE X x (rE G xa cal a W)) : PI X (.Tuple elts kk tpos) (.Call (.Name "enumerate" q) [x] [] pos) (rI G xa cal (.enum a) W) := by
  refine PI.imp (pi_enumA (c.gl gl) (c.free _ (by decide)) (pa_cons ha pa_nil (plain_star px _ _)) (by rw [plain_star px]; rfl)) fun σ H R ⟨F, ι, h, ρ, r, en, P⟩ => ?_
  simp only [src] at P
  refine rE_of r en P.bind fun d1 h1 v1 H1 ι1 P1 g1 r1 s1 => ?_
  split at P1
  · rename_i xs e
    rw [c.hK]
    rcases seqOf_ls e with ⟨ys, rfl, rfl⟩ | e
    · obtain ⟨a, rfl, la⟩ := tup_at r1 s1
      obtain ⟨vs, t, _⟩ := la F H1 ι1 h1 (fun _ z => .inl z) Grow.refl r1
      refine ⟨a, vs, rfl, .inr ⟨t, P1 _ H1 ι1 g1 r1 ?_⟩⟩
      intro F' H' ι' h' f g' r' ok i
      obtain ⟨us, t', u'⟩ := la F' H' ι' h' f g' r'
      refine ⟨fun d hd => ?_, fun hi => ⟨us, t', by rw [VRs.length u', ← enum_len xs 0]; exact Nat.le_of_eq hi⟩⟩
      have hd : (enumL 0 xs)[i]? = some d := hd
      rw [enum_get] at hd
      split at hd
      · rename_i y ey
        cases hd
        obtain ⟨w, e1, rw'⟩ := u'.get ey
        refine ⟨⟨us, w, t', e1⟩, fun z H2 ⟨T, x', ez, hT, eH, fx⟩ => ?_⟩
        subst ez eH
        have e2 := fx us t'
        rw [e1] at e2
        cases e2
        rw [Nat.zero_add]
        exact pair_ok (a := .int (i : Nat)) (x := .int (i : Nat)) r' hT rfl rw'
      · cases hd
    · obtain ⟨a, rfl, la⟩ := ls_at r1 s1 e
      obtain ⟨vs, t, _⟩ := la F H1 ι1 h1 (fun _ z => .inl z) Grow.refl r1 held_now
      refine ⟨a, vs, rfl, .inl ⟨t, P1 _ H1 ι1 g1 r1 ?_⟩⟩
      intro F' H' ι' h' f g' r' ok i
      obtain ⟨us, t', u'⟩ := la F' H' ι' h' f g' r' ok
      refine ⟨fun d hd => ?_, fun hi => ⟨us, t', by rw [VRs.length u', ← enum_len xs 0]; exact Nat.le_of_eq hi⟩⟩
      have hd : (enumL 0 xs)[i]? = some d := hd
      rw [enum_get] at hd
      split at hd
      · rename_i y ey
        cases hd
        obtain ⟨w, e1, rw'⟩ := u'.get ey
        refine ⟨⟨us, w, t', e1⟩, fun z H2 ⟨T, x', ez, hT, eH, fx⟩ => ?_⟩
        subst ez eH
        have e2 := fx us t'
        rw [e1] at e2
        cases e2
        rw [Nat.zero_add]
        exact pair_ok (a := .int (i : Nat)) (x := .int (i : Nat)) r' hT rfl rw'
      · cases hd
  · exact P1.elim
def BAt (G : Ge) (F : Addr → Prop) (H : Hp) (ι : List Addr) (xs : List D) (hl : List (Nat × Cell)) (t : Bool) (a : Addr) : Prop := ∀ (F' : Addr → Prop) (H' : Hp) (ι' : List Addr) (h' : Hpp), (∀ a, F' a → F a ∨ H a = none) → Grow H ι H' ι' → Rel G F' ι' H' h' → (hl.all fun p => decide (h'[p.1]? = some p.2)) = true → ∃ vs, SqB t G.K H' a vs ∧ VRs G F' ι' H' xs vs
theorem sq_at {d : D} {v : V} {xs : List D} (r : Rel G F ι H h) (rv : VR G F ι H d v) (e : seqOf d h = some xs) : ∃ t a, v = .ref a ∧ BAt G F H ι xs (heldOf d h) t a := by
  rcases seqOf_ls e with ⟨ys, rfl, rfl⟩ | e
  · obtain ⟨a, rfl, la⟩ := tup_at r rv
    exact ⟨true, a, rfl, fun F' H' ι' h' f g r' _ => la F' H' ι' h' f g r'⟩
  · obtain ⟨a, rfl, la⟩ := ls_at r rv e
    exact ⟨false, a, rfl, la⟩
theorem snd_zip (c : Ctx T G xa cal k N sc fb W X) {a b : E} {x y : Expr} {elts : List Expr} {kk : Nat} {q pos tpos : Pos} (gl : glC sc "zip" = true) (px : plain x = true) (py : plain y = true) (ha : PE X x (rE G xa cal a W)) (hb : PE X y (rE G xa cal b W)) : PI X (.Tuple elts kk tpos) (.Call (.Name "zip" q) [x, y] [] pos) (rI G xa cal (.zip a b) W) := by
  have py' : plainAll [y] = true := by simp [plainAll, py]
  refine PI.imp (pi_zipB (c.gl gl) (c.free _ (by decide)) (pa_cons ha (pa_cons hb pa_nil (plain_star py _ _)) (plain_star px _ _)) (plain_star px _ _) (plainAll_back py' _ _)) fun σ H R ⟨F, ι, h, ρ, r, en, P⟩ => ?_
  simp only [src] at P
  refine rE_of r en P.bind fun d1 h1 v1 H1 ι1 P1 g1 r1 s1 => ?_
  have P1' : Post ((ev cal b ρ h1).bind _) (fun s h' => ∀ J H' ι', Grow H ι H' ι' → Rel G F ι' H' h' → Walk G F J s H' ι' → R J H') (erx G F xa ι1 H1 W) := P1.imp (fun _ _ z => z) fun _ _ z => z.from g1
  refine rE_of r1 (en.up g1 r.cellsOk) P1'.bind fun d2 h2 v2 H2 ι2 P2 g2 r2 s2 => ?_
  have s1' := s1.up g2 r1.cellsOk
  rw [c.hK]
  cases e1 : seqOf d1 h2 with
  | none => simp only [zipOf, e1] at P2; exact P2.elim
  | some xs =>
    cases e2 : seqOf d2 h2 with
    | none => simp only [zipOf, e1, e2] at P2; exact P2.elim
    | some ys =>
      simp only [zipOf, e1, e2] at P2
      obtain ⟨ta, a, rfl, la⟩ := sq_at r2 s1' e1
      obtain ⟨tb, b, rfl, lb⟩ := sq_at r2 s2 e2
      obtain ⟨us, t, _⟩ := la F H2 ι2 h2 (fun _ z => .inl z) Grow.refl r2 held_now
      obtain ⟨ws, t2, _⟩ := lb F H2 ι2 h2 (fun _ z => .inl z) Grow.refl r2 held_now
      refine ⟨ta, tb, a, b, us, ws, rfl, t, t2, P2 _ H2 ι2 (g1.trans g2) r2 ?_⟩
      intro F' H' ι' h' f g' r' ok i
      have ok : (heldOf d1 h2 ++ heldOf d2 h2).all (fun p => decide (h'[p.1]? = some p.2)) = true := ok
      rw [List.all_append, Bool.and_eq_true] at ok
      obtain ⟨us', t', u'⟩ := la F' H' ι' h' f g' r' ok.1
      obtain ⟨ws', t2', w'⟩ := lb F' H' ι' h' f g' r' ok.2
      have lu := VRs.length u'
      have lw := VRs.length w'
      refine ⟨fun d hd => ?_, fun hi => ?_⟩
      · have hd : (zipL xs ys)[i]? = some d := hd
        rw [zip_get] at hd
        split at hd
        · rename_i y1 y2 ey1 ey2
          cases hd
          obtain ⟨z1, e1', rz1⟩ := u'.get ey1
          obtain ⟨z2, e2', rz2⟩ := w'.get ey2
          refine ⟨⟨us', ws', z1, z2, t', t2', e1', e2'⟩, fun z H3 ⟨T, x', y', ez, hT, eH, fx, fy⟩ => ?_⟩
          subst ez eH
          have q1 := fx us' t'
          have q2 := fy ws' t2'
          rw [e1'] at q1
          rw [e2'] at q2
          cases q1
          cases q2
          exact pair_ok r' hT rz1 rz2
        · cases hd
      · have hi : (zipL xs ys).length = i := hi
        rw [zip_len] at hi
        exact ⟨us', ws', t', t2', by omega, by omega, by omega⟩
/-! slices -/
def rO (G : Ge) (xa : Nat → Addr) (cal : Cal) (es : Es) (W : WX) : TO := fun σ H Q => ∃ F ι h ρ, Rel G F ι H h ∧ EnvR G F ι H ρ σ ∧ Post (evo cal es ρ h) (okg G F ι H fun o H' _ => Q o H') (erx G F xa ι H W)
theorem PO.imp {e : Option Expr} {t t' : TO} (p : PO X e t) (i : ∀ σ H Q, t' σ H Q → t σ H Q) : PO X e t' := ⟨fun pins s σ H Q I q => p.run pins s σ H Q I (i _ _ _ q)⟩
theorem snd_o0 : PO X none (rO G xa cal .nil W) := PO.imp po_none fun σ H Q ⟨F, ι, h, ρ, r, en, P⟩ => P H ι Grow.refl r
theorem snd_o1 {e : E} {es : Es} {x : Expr} (he : PE X x (rE G xa cal e W)) : PO X (some x) (rO G xa cal (.cons e es) W) := PO.imp (po_some he) fun σ H Q ⟨F, ι, h, ρ, r, en, P⟩ => by
  simp only [evo] at P
  refine rE_of r en P.bind fun d h1 v H1 ι1 P1 g1 r1 s1 => ?_
  split at P1
  · exact ⟨_, s1, P1 H1 ι1 g1 r1⟩
  · exact P1.elim
theorem clip_sIx (n : Nat) (i : Int) (d : Nat) : clip n i = HT.sIx n d (some i) := by
  show clip n i = (if i < 0 then (i + (n : Int)).toNat else min i.toNat n)
  unfold clip
  split
  · split <;> omega
  · split <;> omega
theorem cut_V {α : Type} (xs : List α) (lo hi : Option Int) : cut xs lo hi = (xs.drop (HT.sIx xs.length 0 lo)).take (HT.sIx xs.length xs.length hi - HT.sIx xs.length 0 lo) := by
  unfold cut
  cases lo with
  | none => cases hi with
    | none => rfl
    | some j =>
      show (xs.drop 0).take (clip xs.length j - 0) = _
      rw [clip_sIx _ j xs.length]; rfl
  | some i => cases hi with
    | none =>
      show (xs.drop (clip xs.length i)).take (xs.length - clip xs.length i) = _
      rw [clip_sIx _ i 0]; rfl
    | some j =>
      show (xs.drop (clip xs.length i)).take (clip xs.length j - clip xs.length i) = _
      rw [clip_sIx _ i 0, clip_sIx _ j xs.length]
theorem VRs.cut {ds : List D} {vs : List V} (r : VRs G F ι H ds vs) (lo hi : Option Int) : VRs G F ι H (PL.cut ds lo hi) (cutV vs lo hi) := by
  rw [cut_V]
  unfold cutV
  rw [VRs.length r]
  exact (r.drop _).take _
def rSl (G : Ge) (th : Bool) : V → Option Int → Option Int → Hp → VK → Prop := fun x lo hi H Q => ∃ F ι h a E, Rel G F ι H h ∧ VR G F ι H a x ∧ Post (slice th a lo hi h) (okp G F ι H Q) E
theorem sl_ok (fa : Nat → Addr) (nf nx : Nat) (th : Bool) : SlR X (rSl ⟨X.K, fa, nf, nx⟩ th) := by
  intro pins s σ H x v vl vu lo hi sl Q I rx hs pl pu ⟨F, ι, h, a, E, r, ra, P⟩
  unfold slice at P
  split at P
  · rename_i xs
    obtain ⟨p, vs, rfl, t, u⟩ := ra
    refine sl_tupA pins s σ H _ v vl vu lo hi sl Q I rx hs pl pu ⟨p, vs, rfl, t, fun w => ?_, fun _ q n => tup_ok r (u.cut lo hi) P n⟩
    have e : PL.cut xs lo hi = xs := by
      rw [cut_V]
      rw [VRs.length u] at w
      rw [w.1, w.2, List.drop_zero, Nat.sub_zero, List.take_length]
    rw [e] at P
    exact same_ok r P ⟨p, vs, rfl, t, u⟩
  · rename_i z
    split at P
    · rename_i hz
      refine sl_str pins s σ H _ v vl vu lo hi sl Q I rx hs pl pu ⟨z, ra, by rw [line_eq]; exact hz, ?_⟩
      have e : (⟨(PL.cut z.cps.toList lo hi).toArray⟩ : Str) = cutS z lo hi := by
        rw [cut_V]; rfl
      rw [e] at P
      exact same_ok r P rfl
    · exact P.elim
  · split at P
    · rename_i xs e
      obtain ⟨p, vs, rfl, t, u⟩ := VR.ls r ra e
      exact sl_list pins s σ H _ v vl vu lo hi sl Q I rx hs pl pu ⟨p, vs, rfl, t, fun q n => new_ok r (u.cut lo hi) P n⟩
    · exact P.elim
theorem snd_sl (c : Ctx T G xa cal k N sc fb W X) {th : Bool} {a : E} {lo hi : Es} {x : Expr} {l u : Option Expr} {p2 pos : Pos} (ha : PE X x (rE G xa cal a W)) (hl : PO X l (rO G xa cal lo W)) (hu : PO X u (rO G xa cal hi W)) : PE X (.Subscript x (.Slice l u none p2) pos) (rE G xa cal (.sl th a lo hi) W) :=
  PE.imp (pe_slice (sl_ok G.fa G.nf G.nx th) ha hl hu) fun σ H Q ⟨F, ι, h, ρ, r, en, P⟩ => by
    rw [c.eqK]
    simp only [ev] at P
    refine rE_of r en P.bind fun d1 h1 v1 H1 ι1 P1 g1 r1 s1 => ?_
    refine ⟨F, ι1, h1, ρ, r1, en.up g1 r.cellsOk, (Post.from P1 g1).bind.imp (fun o h2 P2 H2 ι2 g2 r2 => ?_) fun _ _ z => z⟩
    refine ⟨F, ι2, h2, ρ, r2, (en.up g1 r.cellsOk).up g2 r1.cellsOk, (Post.from P2 g2).bind.imp (fun o2 h3 P3 H3 ι3 g3 r3 => ?_) fun _ _ z => z⟩
    exact ⟨F, ι3, h3, d1, _, r3, (s1.up g2 r1.cellsOk).up g3 r2.cellsOk, Post.from P3 g3⟩
theorem snd_rev (c : Ctx T G xa cal k N sc fb W X) {th : Bool} {a : E} {x : Expr} {j : Nat} {p1 p2 p3 pos : Pos} (ha : PE X x (rE G xa cal a W)) : PE X (.Subscript x (.Slice none none (some (.UnaryOp .USub (.Constant (.int 1) j p1) p2)) p3) pos) (rE G xa cal (.rev th a) W) :=
  PE.imp (pe_revL ha) fun σ H Q ⟨F, ι, h, ρ, r, en, P⟩ => by
    rw [c.hK]
    simp only [ev] at P
    refine rE_of r en P.bind fun d1 h1 v1 H1 ι1 P1 g1 r1 s1 => ?_
    unfold revd at P1
    split at P1
    · rename_i xs e
      obtain ⟨p, vs, rfl, t, u⟩ := VR.ls r1 s1 e
      exact ⟨p, vs, rfl, t, fun q n => new_ok r1 u.reverse (Post.from P1 g1) n⟩
    · exact P1.elim
end
end PL
end
section
set_option Elab.async false
set_option linter.all false
set_option maxRecDepth 100000
set_option maxHeartbeats 1000000
/-! PLS13: all expressions together. -/
namespace PL
open PySem PySem.Spec PyProof.Rows L2
section
variable {T : Tab} {G : Ge} {xa : Nat → Addr} {cal : Cal} {k : Nat} {N : List Str} {sc : Scope} {fb : Str → Bool} {W : WX} {X : Cx} {F : Addr → Prop} {ι : List Addr} {H : Hp} {h : Hpp} {ρ : List (Option D)} {σ : L2.St} {Q : VK}
theorem chain_bl {o1 o2 : Cop} {a b cc : E} {d : D} {h' : Hpp} (e : ev cal (.chain o1 o2 a b cc) ρ h = .ok d h') : ∃ b, d = .bl b := by
  simp only [ev] at e
  cases e1 : ev cal a ρ h with
  | ok d1 h1 =>
    rw [e1, R.bind_ok] at e
    cases e2 : ev cal b ρ h1 with
    | ok d2 h2 =>
      rw [e2, R.bind_ok] at e
      cases e3 : cop o1 d1 d2 h2 with
      | some k =>
        rw [e3, opt_some, R.bind_ok] at e
        cases k with
        | false => cases e; exact ⟨_, rfl⟩
        | true =>
          simp only at e
          cases e4 : ev cal cc ρ h2 with
          | ok d3 h3 =>
            rw [e4, R.bind_ok] at e
            cases e5 : cop o2 d2 d3 h3 with
            | some k => rw [e5] at e; cases e; exact ⟨_, rfl⟩
            | none => rw [e5] at e; cases e
          | er c h2 => rw [e4] at e; cases e
          | no => rw [e4] at e; cases e
      | none => rw [e3] at e; cases e
    | er c h2 => rw [e2] at e; cases e
    | no => rw [e2] at e; cases e
  | er c h1 => rw [e1] at e; cases e
  | no => rw [e1] at e; cases e
theorem chain_red {o1 o2 : Cop} {a b cc : E} (r : Rel G F ι H h) (en : EnvR G F ι H ρ σ) (P : Post (ev cal (.chain o1 o2 a b cc) ρ h) (okp G F ι H Q) (erx G F xa ι H W)) : tChain (rCop G o1) (rCop G o2) (rE G xa cal a W) (rE G xa cal b W) (rE G xa cal cc W) σ H Q := by
  simp only [ev] at P
  refine rE_of r en P.bind fun d1 h1 v1 H1 ι1 P1 g1 r1 s1 => ?_
  refine rE_of r1 (en.up g1 r.cellsOk) (Post.from P1 g1).bind fun d2 h2 v2 H2 ι2 P2 g2 r2 s2 => ?_
  obtain ⟨b1, e1, P3⟩ := Post.opt P2.bind
  refine ⟨F, ι2, h2, d1, d2, b1, r2, s1.up g2 r1.cellsOk, s2, e1, b1, rfl, ?_⟩
  cases b1 with
  | false => exact same_ok r2 (Post.from P3 g2) rfl
  | true =>
    refine rE_of r2 ((en.up g1 r.cellsOk).up g2 r1.cellsOk) (Post.from P3 g2).bind fun d3 h3 v3 H3 ι3 P4 g3 r3 s3 => ?_
    obtain ⟨b2, e2, P5⟩ := Post.opt P4.bind
    exact ⟨F, ι3, h3, d2, d3, b2, r3, s2.up g3 r2.cellsOk, s3, e2, same_ok r3 (Post.from P5 g3) rfl⟩
theorem snd_chainT (c : Ctx T G xa cal k N sc fb W X) {o1 o2 : Cop} {a b cc : E} {x y z : Expr} {pos : Pos} (pz : plain z = true) (ha : PE X x (rE G xa cal a W)) (hb : PE X y (rE G xa cal b W)) (hc : PE X z (rE G xa cal cc W)) : PT X (.Compare x [pyCop o1, pyCop o2] [y, z] pos) (rT G xa cal (.chain o1 o2 a b cc) W) :=
  PT.imp (pt_chain (op_cop G.fa G.nf G.nx c.room.units o1) (op_cop G.fa G.nf G.nx c.room.units o2) ha hb hc (plain_behind pz _)) fun σ H Q ⟨F, ι, h, ρ, r, en, P⟩ => by
    rw [c.eqK]
    exact chain_red r en (tru_bl_of (e := .chain o1 o2 a b cc) _ P fun d h' e => chain_bl e)
mutual
theorem sndE : ∀ (e : E) (sc : Scope) (fb : Str → Bool) (p : Expr), chkE T N e sc fb p = true → ∀ (W : WX) (X : Cx), Ctx T G xa cal k N sc fb W X → PE X p (rE G xa cal e W) ∧ PT X p (rT G xa cal e W)
  | .cst d, sc, fb, p, ok, W, X, c => by
    rw [chkE] at ok
    have he := snd_cst c ok
    refine ⟨he, snd_plainT c ?_ he⟩
    unfold chkCst at ok
    split at ok
    · split at ok
      · rename_i e
        obtain ⟨pos, rfl⟩ := vName_eq e
        rfl
      · cases ok
    · split at ok
      · rename_i e
        rw [asConst_eq e]; rfl
      · cases ok
  | .var i, sc, fb, p, ok, W, X, c => by
    rw [chkE] at ok
    split at ok
    · rename_i x e
      obtain ⟨pos, rfl⟩ := vName_eq e
      simp only [Bool.and_eq_true] at ok
      have he : PE X (.Name x pos) (rE G xa cal (.var i) W) := snd_var c (of_decide_eq_true ok.1.1) ok.1.2 ok.2
      exact ⟨he, snd_plainT c rfl he⟩
    · cases ok
  | .glb x d, sc, fb, p, ok, W, X, c => by
    rw [chkE] at ok
    split at ok
    · rename_i y e
      obtain ⟨pos, rfl⟩ := vName_eq e
      simp only [Bool.and_eq_true] at ok
      obtain ⟨⟨⟨o1, o2⟩, o3⟩, o4⟩ := ok
      cases (of_decide_eq_true o1)
      have he : PE X (.Name x pos) (rE G xa cal (.glb x d) W) := snd_glb c (of_decide_eq_true o2) o3 o4
      exact ⟨he, snd_plainT c rfl he⟩
    · cases ok
  | .tup es, sc, fb, p, ok, W, X, c => by
    rw [chkE] at ok
    split at ok
    · rename_i ps e
      obtain ⟨⟨j, pos, rfl⟩, hl⟩ := vTup_eq e
      have he := snd_tup (j := j) (pos := pos) hl ok (sndEs es sc fb ps ok W X c).1
      exact ⟨he, snd_plainT c rfl he⟩
    · cases ok
  | .lst th es, sc, fb, p, ok, W, X, c => by
    rw [chkE] at ok
    split at ok
    · rename_i ps e
      obtain ⟨⟨pos, rfl⟩, hl⟩ := vLst_eq e
      have he := snd_lst (th := th) (pos := pos) hl ok (sndEs es sc fb ps ok W X c).1
      exact ⟨he, snd_plainT c rfl he⟩
    · cases ok
  | .bin th op a b, sc, fb, p, ok, W, X, c => by
    rw [chkE] at ok
    split at ok
    · rename_i q e
      obtain ⟨pos, rfl⟩ := vBin_eq e
      simp only [Bool.and_eq_true] at ok
      have he := snd_bin (op := op) (th := th) (pos := pos) c (sndE a sc fb q.1 ok.1 W X c).1 (sndE b sc fb q.2 ok.2 W X c).1
      exact ⟨he, snd_plainT c rfl he⟩
    · cases ok
  | .neg a, sc, fb, p, ok, W, X, c => by
    rw [chkE] at ok
    split at ok
    · rename_i x e
      obtain ⟨pos, rfl⟩ := vUn_eq e
      have he := snd_neg (pos := pos) (sndE a sc fb x ok W X c).1
      exact ⟨he, snd_plainT c rfl he⟩
    · cases ok
  | .not a, sc, fb, p, ok, W, X, c => by
    rw [chkE] at ok
    split at ok
    · rename_i x e
      obtain ⟨pos, rfl⟩ := vUn_eq e
      have ih := sndE a sc fb x ok W X c
      exact ⟨snd_not c ih.1, snd_notT ih.2⟩
    · cases ok
  | .and a b, sc, fb, p, ok, W, X, c => by
    rw [chkE] at ok
    split at ok
    · rename_i q e
      obtain ⟨y, r, pos, rfl, e2⟩ := vBool_eq e
      simp only [Bool.and_eq_true] at ok
      have ih1 := sndE a sc fb q.1 ok.1 W X c
      have ih2 := sndE b sc fb q.2 ok.2 W X c
      rw [e2] at ih2
      exact ⟨snd_and c ih1.1 ih2.1, snd_andT ih1.2 ih2.2⟩
    · cases ok
  | .or a b, sc, fb, p, ok, W, X, c => by
    rw [chkE] at ok
    split at ok
    · rename_i q e
      obtain ⟨y, r, pos, rfl, e2⟩ := vBool_eq e
      simp only [Bool.and_eq_true] at ok
      have ih1 := sndE a sc fb q.1 ok.1 W X c
      have ih2 := sndE b sc fb q.2 ok.2 W X c
      rw [e2] at ih2
      exact ⟨snd_or c ih1.1 ih2.1, snd_orT ih1.2 ih2.2⟩
    · cases ok
  | .cmp op a b, sc, fb, p, ok, W, X, c => by
    rw [chkE] at ok
    split at ok
    · rename_i q e
      obtain ⟨⟨pos, rfl⟩, pl⟩ := vCmp_eq e
      simp only [Bool.and_eq_true] at ok
      have ih1 := sndE a sc fb q.1 ok.1 W X c
      have ih2 := sndE b sc fb q.2 ok.2 W X c
      exact ⟨snd_cmp c pl ih1.1 ih2.1, snd_cmpT c pl ih1.1 ih2.1⟩
    · cases ok
  | .isN ng a, sc, fb, p, ok, W, X, c => by
    rw [chkE] at ok
    split at ok
    · rename_i x e
      obtain ⟨j, q, pos, rfl⟩ := vIsN_eq e
      have ih := sndE a sc fb x ok W X c
      exact ⟨snd_isN ih.1, snd_isNT ih.1⟩
    · cases ok
  | .inn ng a b, sc, fb, p, ok, W, X, c => by
    rw [chkE] at ok
    split at ok
    · rename_i q e
      obtain ⟨⟨pos, rfl⟩, pl⟩ := vCmp_eq e
      simp only [Bool.and_eq_true] at ok
      have ih1 := sndE a sc fb q.1 ok.1 W X c
      have ih2 := sndE b sc fb q.2 ok.2 W X c
      exact ⟨snd_inn c pl ih1.1 ih2.1, snd_innT c pl ih1.1 ih2.1⟩
    · cases ok
  | .chain o1 o2 a b cc, sc, fb, p, ok, W, X, c => by
    rw [chkE] at ok
    split at ok
    · rename_i q e
      obtain ⟨⟨pos, rfl⟩, pl⟩ := vChain_eq e
      simp only [Bool.and_eq_true] at ok
      have ih1 := sndE a sc fb q.1 ok.1.1 W X c
      have ih2 := sndE b sc fb q.2.1 ok.1.2 W X c
      have ih3 := sndE cc sc fb q.2.2 ok.2 W X c
      exact ⟨snd_chain c pl ih1.1 ih2.1 ih3.1, snd_chainT c pl ih1.1 ih2.1 ih3.1⟩
    · cases ok
  | .ite cc a b, sc, fb, p, ok, W, X, c => by
    rw [chkE] at ok
    split at ok
    · rename_i q e
      obtain ⟨pos, rfl⟩ := vIf_eq e
      simp only [Bool.and_eq_true] at ok
      have ih1 := sndE cc sc fb q.1 ok.1.1 W X c
      have ih2 := sndE a sc fb q.2.1 ok.1.2 W X c
      have ih3 := sndE b sc fb q.2.2 ok.2 W X c
      exact ⟨snd_ite ih1.2 ih2.1 ih3.1, snd_iteT ih1.2 ih2.2 ih3.2⟩
    · cases ok
  | .call f es, sc, fb, p, ok, W, X, c => by
    rw [chkE] at ok
    split at ok
    · rename_i q e
      obtain ⟨qq, pos, rfl⟩ := vCall_eq e
      simp only [Bool.and_eq_true] at ok
      obtain ⟨⟨⟨o1, o2⟩, o3⟩, o4⟩ := ok
      have he : PE X (.Call (.Name q.1 qq) q.2 [] pos) (rE G xa cal (.call f es) W) := snd_call c (of_decide_eq_true o1) o2 o3 o4 (sndEs es sc fb q.2 o4 W X c).1
      exact ⟨he, snd_plainT c rfl he⟩
    · cases ok
  | .callv i es, sc, fb, p, ok, W, X, c => by
    rw [chkE] at ok
    split at ok
    · rename_i q e
      obtain ⟨qq, pos, rfl⟩ := vCall_eq e
      simp only [Bool.and_eq_true, Bool.not_eq_true'] at ok
      obtain ⟨⟨⟨⟨o1, o2⟩, o3⟩, o5⟩, o4⟩ := ok
      have he : PE X (.Call (.Name q.1 qq) q.2 [] pos) (rE G xa cal (.callv i es) W) := snd_callv c (of_decide_eq_true o1) o2 o3 o5 o4 (sndEs es sc fb q.2 o4 W X c).1
      exact ⟨he, snd_plainT c rfl he⟩
    · cases ok
  | .bi b th es, sc, fb, p, ok, W, X, c => by
    rw [chkE] at ok
    split at ok
    · rename_i q e
      obtain ⟨qq, pos, rfl⟩ := vCall_eq e
      simp only [Bool.and_eq_true, Bool.not_eq_true'] at ok
      obtain ⟨⟨⟨o1, o2⟩, o3⟩, o4⟩ := ok
      obtain ⟨x, ps⟩ := q
      obtain ⟨o2, o5⟩ := glN_is o2
      simp only at o2
      subst o2
      have he : PE X (.Call (.Name (biName b) qq) ps [] pos) (rE G xa cal (.bi b th es) W) := snd_bi c o1 o5 o3 o4 (sndEs es sc fb ps o4 W X c).1
      exact ⟨he, snd_plainT c rfl he⟩
    · cases ok
  | .conv _ _ _, sc, fb, p, ok, W, X, c => by rw [chkE] at ok; cases ok
  | .isi a ts, sc, fb, p, ok, W, X, c => by
    rw [chkE] at ok
    split at ok
    · rename_i q e
      obtain ⟨qq, pos, rfl⟩ := vCall_eq e
      obtain ⟨f, ps⟩ := q
      simp only at ok
      split at ok
      · rename_i x y
        simp only [Bool.and_eq_true] at ok
        obtain ⟨⟨⟨⟨o1, o2⟩, o3⟩, o4⟩, o5⟩ := ok
        obtain ⟨rfl, o6⟩ := glN_is o1
        have he : PE X (.Call (.Name "isinstance" qq) [x, y] [] pos) (rE G xa cal (.isi a ts) W) := snd_isi c o6 o2 o3 (sndE a sc fb x o4 W X c).1 o5
        exact ⟨he, snd_plainT c rfl he⟩
      · cases ok
    · cases ok
  | .mth m o es, sc, fb, p, ok, W, X, c => by
    rw [chkE] at ok
    split at ok
    · rename_i q e
      obtain ⟨⟨apos, cpos, rfl, hline⟩, hb, hl⟩ := vMeth_eq e
      obtain ⟨qo, x, ps⟩ := q
      simp only [Bool.and_eq_true] at ok
      obtain ⟨⟨⟨o1, o2⟩, o3⟩, o4⟩ := ok
      cases (of_decide_eq_true o2)
      have he : PE X (.Call (.Attribute qo (mtName m) apos) ps [] cpos) (rE G xa cal (.mth m o es) W) := snd_mth c o1 hb hline hl (sndE o sc fb qo o3 W X c).1 o4 (sndEs es sc fb ps o4 W X c).1
      exact ⟨he, snd_plainT c rfl he⟩
    · cases ok
  | .idx a b, sc, fb, p, ok, W, X, c => by
    rw [chkE] at ok
    split at ok
    · rename_i q e
      obtain ⟨⟨pos, rfl⟩, pl⟩ := vSub_eq e
      simp only [Bool.and_eq_true] at ok
      have he := snd_idx (pos := pos) c pl (sndE a sc fb q.1 ok.1 W X c).1 (sndE b sc fb q.2 ok.2 W X c).1
      exact ⟨he, snd_plainT c rfl he⟩
    · cases ok
  | .sl th a lo hi, sc, fb, p, ok, W, X, c => by
    rw [chkE] at ok
    split at ok
    · rename_i q e
      obtain ⟨p2, pos, rfl⟩ := vSl_eq e
      simp only [Bool.and_eq_true] at ok
      have he := snd_sl (th := th) (pos := pos) (p2 := p2) c (sndE a sc fb q.1 ok.1.1 W X c).1 (sndO lo sc fb q.2.1 ok.1.2 W X c) (sndO hi sc fb q.2.2 ok.2 W X c)
      exact ⟨he, snd_plainT c rfl he⟩
    · cases ok
  | .rev th a, sc, fb, p, ok, W, X, c => by
    rw [chkE] at ok
    split at ok
    · rename_i x e
      obtain ⟨j, p1, p2, p3, pos, rfl⟩ := vRev_eq e
      have he := snd_rev (th := th) (j := j) (p1 := p1) (p2 := p2) (p3 := p3) (pos := pos) c (sndE a sc fb x ok W X c).1
      exact ⟨he, snd_plainT c rfl he⟩
    · cases ok
  | .comp th elt tg it cs own, sc, fb, p, ok, W, X, c => by
    rw [chkE] at ok
    split at ok
    · rename_i q e
      obtain ⟨⟨pos, rfl⟩, pl, hl⟩ := vComp_eq e
      simp only [Bool.and_eq_true] at ok
      obtain ⟨⟨⟨⟨⟨o1, o2⟩, o3⟩, o4⟩, o5⟩, o6⟩ := ok
      have he := snd_comp (th := th) (pos := pos) c pl o1 o2 (sndI it sc fb q.tg q.it o3 W X c)
        (fun X' c' => snd_tg c' tg q.tg o4)
        (fun X' c' => (sndEs cs (relS q.scope sc) (fbOf q.scope) q.ifs o5 _ X' c').2 hl)
        (fun X' c' => (sndE elt (relS q.scope sc) (fbOf q.scope) q.elt o6 _ X' c').1)
      exact ⟨he, snd_plainT c rfl he⟩
    · cases ok
  | .comp2 _ _ _ _ _ _ _ _ _, sc, fb, p, ok, W, X, c => by rw [chkE] at ok; cases ok
  | .dic _ _, sc, fb, p, ok, W, X, c => by rw [chkE] at ok; cases ok
theorem sndEs : ∀ (es : Es) (sc : Scope) (fb : Str → Bool) (ps : List Expr), chkEs T N es sc fb ps = true → ∀ (W : WX) (X : Cx), Ctx T G xa cal k N sc fb W X → PA X ps (rA G xa cal es W) ∧ (ps.length ≤ 1 → PTs X ps (rTs G xa cal es W))
  | .nil, sc, fb, ps, ok, W, X, c => by
    rw [chkEs] at ok
    cases ps with
    | nil => exact ⟨snd_nil, fun _ => snd_ts0⟩
    | cons _ _ => cases ok
  | .cons e es, sc, fb, ps, ok, W, X, c => by
    cases ps with
    | nil => rw [chkEs] at ok; cases ok
    | cons p ps =>
      simp only [chkEs, Bool.and_eq_true] at ok
      have ih1 := sndE e sc fb p ok.1.2 W X c
      have ih2 := sndEs es sc fb ps ok.2 W X c
      refine ⟨snd_cons ok.1.1 ih1.1 ih2.1, fun hl => ?_⟩
      have hps : ps = [] := by
        cases ps with
        | nil => rfl
        | cons _ _ => simp at hl
      subst hps
      cases es with
      | nil => exact snd_ts1 ih1.2
      | cons _ _ => exact absurd ok.2 (by simp [chkEs])
theorem sndO : ∀ (es : Es) (sc : Scope) (fb : Str → Bool) (p : Option Expr), chkO T N es sc fb p = true → ∀ (W : WX) (X : Cx), Ctx T G xa cal k N sc fb W X → PO X p (rO G xa cal es W)
  | .nil, sc, fb, p, ok, W, X, c => by
    cases p with
    | none => exact snd_o0
    | some _ => simp [chkO] at ok
  | .cons e es, sc, fb, p, ok, W, X, c => by
    cases p with
    | none => simp [chkO] at ok
    | some x =>
      simp only [chkO, Bool.and_eq_true] at ok
      exact snd_o1 (sndE e sc fb x ok.1 W X c).1
theorem sndI : ∀ (it : PL.Itr) (sc : Scope) (fb : Str → Bool) (t p : Expr), chkI T N it sc fb t p = true → ∀ (W : WX) (X : Cx), Ctx T G xa cal k N sc fb W X → PI X t p (rI G xa cal it W)
  | .of e, sc, fb, t, p, ok, W, X, c => by
    rw [chkI] at ok
    exact snd_of c (sndE e sc fb p ok W X c).1
  | .range1 a, sc, fb, t, p, ok, W, X, c => by
    rw [chkI] at ok
    split at ok
    · rename_i q e
      obtain ⟨qq, pos, rfl⟩ := vCall_eq e
      obtain ⟨f, ps⟩ := q
      simp only at ok
      split at ok
      · simp only [Bool.and_eq_true] at ok
        obtain ⟨rfl, o6⟩ := glN_is ok.1.1
        exact snd_range1 c o6 ok.1.2 (sndE a sc fb _ ok.2 W X c).1
      · cases ok
    · cases ok
  | .range2 a b, sc, fb, t, p, ok, W, X, c => by
    rw [chkI] at ok
    split at ok
    · rename_i q e
      obtain ⟨qq, pos, rfl⟩ := vCall_eq e
      obtain ⟨f, ps⟩ := q
      simp only at ok
      split at ok
      · simp only [Bool.and_eq_true] at ok
        obtain ⟨⟨⟨⟨o1, o2⟩, o3⟩, o4⟩, o5⟩ := ok
        obtain ⟨rfl, o6⟩ := glN_is o1
        exact snd_range2 c o6 o2 o3 (sndE a sc fb _ o4 W X c).1 (sndE b sc fb _ o5 W X c).1
      · cases ok
    · cases ok
  | .range3 a b d, sc, fb, t, p, ok, W, X, c => by
    rw [chkI] at ok
    split at ok
    · rename_i q e
      obtain ⟨qq, pos, rfl⟩ := vCall_eq e
      obtain ⟨f, ps⟩ := q
      simp only at ok
      split at ok
      · simp only [Bool.and_eq_true] at ok
        obtain ⟨⟨⟨⟨⟨⟨o1, o2⟩, o3⟩, o3'⟩, o4⟩, o5⟩, o5'⟩ := ok
        obtain ⟨rfl, o6⟩ := glN_is o1
        exact snd_range3 c o6 o2 o3 o3' (sndE a sc fb _ o4 W X c).1 (sndE b sc fb _ o5 W X c).1 (sndE d sc fb _ o5' W X c).1
      · cases ok
    · cases ok
  | .enum e, sc, fb, t, p, ok, W, X, c => by
    rw [chkI] at ok
    split at ok
    · rename_i q eq
      obtain ⟨qq, pos, rfl⟩ := vCall_eq eq
      obtain ⟨f, ps⟩ := q
      simp only at ok
      split at ok
      · simp only [Bool.and_eq_true] at ok
        obtain ⟨⟨⟨o1, o2⟩, o3⟩, o4⟩ := ok
        obtain ⟨rfl, o6⟩ := glN_is o1
        obtain ⟨ts, et⟩ := Option.isSome_iff_exists.mp o4
        obtain ⟨⟨j, tp, rfl⟩, _⟩ := vTup_eq et
        exact snd_enum c o6 o2 (sndE e sc fb _ o3 W X c).1
      · cases ok
    · cases ok
  | .zip a b, sc, fb, t, p, ok, W, X, c => by
    rw [chkI] at ok
    split at ok
    · rename_i q eq
      obtain ⟨qq, pos, rfl⟩ := vCall_eq eq
      obtain ⟨f, ps⟩ := q
      simp only at ok
      split at ok
      · simp only [Bool.and_eq_true] at ok
        obtain ⟨⟨⟨⟨⟨o1, o2⟩, o3⟩, o4⟩, o5⟩, o7⟩ := ok
        obtain ⟨rfl, o6⟩ := glN_is o1
        obtain ⟨ts, et⟩ := Option.isSome_iff_exists.mp o7
        obtain ⟨⟨j, tp, rfl⟩, _⟩ := vTup_eq et
        exact snd_zip c o6 o2 o3 (sndE a sc fb _ o4 W X c).1 (sndE b sc fb _ o5 W X c).1
      · cases ok
    · cases ok
end
end
end PL
end
section
set_option Elab.async false
set_option linter.all false
set_option maxRecDepth 100000
set_option maxHeartbeats 1000000
/-! PLS14: statements, case by case. -/
namespace PL
open PySem PySem.Spec PyProof.Rows L2
def PostO (G : Ge) (F : Addr → Prop) (xa : Nat → Addr) (ι : List Addr) (H : Hp) (W : WX) (D : Ends) (o : O) : Prop := match o with
  | .nx ρ' h' => ∀ σ' H' ι', Grow H ι H' ι' → Rel G F ι' H' h' → EnvR G F ι' H' ρ' σ' → D.nx σ' H'
  | .rt d h' => okp G F ι H D.rt d h'
  | .bk ρ' h' => ∀ σ' H' ι', Grow H ι H' ι' → Rel G F ι' H' h' → EnvR G F ι' H' ρ' σ' → D.bk σ' H'
  | .ct ρ' h' => ∀ σ' H' ι', Grow H ι H' ι' → Rel G F ι' H' h' → EnvR G F ι' H' ρ' σ' → D.ct σ' H'
  | .er c _ h' => erx G F xa ι H W c h'
  | .no => False
def rSt (G : Ge) (xa : Nat → Addr) (cal : Cal) (s : S) (W : WX) : TS := fun D σ H => ∃ F ι h ρ, Rel G F ι H h ∧ EnvR G F ι H ρ σ ∧ PostO G F xa ι H W D (ex cal s ρ h)
def rSs (G : Ge) (xa : Nat → Addr) (cal : Cal) (s : Ss) (W : WX) : TS := fun D σ H => ∃ F ι h ρ, Rel G F ι H h ∧ EnvR G F ι H ρ σ ∧ PostO G F xa ι H W D (exs cal s ρ h)
structure CtxS (T : Tab) (G : Ge) (xa : Nat → Addr) (cal : Cal) (k : Nat) (N : List Str) (sc : Scope) (fb : Str → Bool) (W : WX) (X : Cx) : Prop where
  c : Ctx T G xa cal k N sc fb W X
  own : PassesOwn (model X.prog X.w) X.A X.env X.xe
  stk : X.stack = X.env :: X.outer
  fr : X.env.frame = some X.env.locals
  kind : sc.kind = .function
section
variable {T : Tab} {G : Ge} {xa : Nat → Addr} {cal : Cal} {k : Nat} {N : List Str} {sc : Scope} {fb : Str → Bool} {W : WX} {X : Cx} {F : Addr → Prop} {ι : List Addr} {H : Hp} {h : Hpp} {ρ : List (Option D)} {σ : L2.St} {Q : VK} {D : Ends}
theorem PostO.from {o : O} {ι1 : List Addr} {H1 : Hp} (p : PostO G F xa ι H W D o) (g : Grow H ι H1 ι1) : PostO G F xa ι1 H1 W D o := by
  cases o with
  | nx ρ' h' => exact fun σ' H' ι' g' r' e' => p σ' H' ι' (g.trans g') r' e'
  | rt d h' => exact okp.from g p
  | bk ρ' h' => exact fun σ' H' ι' g' r' e' => p σ' H' ι' (g.trans g') r' e'
  | ct ρ' h' => exact fun σ' H' ι' g' r' e' => p σ' H' ι' (g.trans g') r' e'
  | er c ρ' h' => exact erx.from p g
  | no => exact p
theorem PostO.imp {D' : Ends} {o : O} (p : PostO G F xa ι H W D o) (h1 : ∀ ρ' h', o = .nx ρ' h' → PostO G F xa ι H W D (.nx ρ' h') → PostO G F xa ι H W D' (.nx ρ' h')) (h2 : D'.rt = D.rt) (h3 : ∀ ρ' h', o = .bk ρ' h' → PostO G F xa ι H W D (.bk ρ' h') → PostO G F xa ι H W D' (.bk ρ' h'))
    (h4 : ∀ ρ' h', o = .ct ρ' h' → PostO G F xa ι H W D (.ct ρ' h') → PostO G F xa ι H W D' (.ct ρ' h')) : PostO G F xa ι H W D' o := by
  cases o with
  | nx ρ' h' => exact h1 ρ' h' rfl p
  | rt d h' =>
    show okp G F ι H D'.rt d h'
    rw [h2]; exact p
  | bk ρ' h' => exact h3 ρ' h' rfl p
  | ct ρ' h' => exact h4 ρ' h' rfl p
  | er c ρ' h' => exact p
  | no => exact p
theorem PostO.thn {r : R PL.D} {f : PL.D → Hpp → O} {E : Ends} (p : PostO G F xa ι H W E (andThen r ρ f)) : Post r (fun d h => PostO G F xa ι H W E (f d h)) (erx G F xa ι H W) := by
  cases r with
  | ok d h => exact p
  | er c h => exact p
  | no => exact p
theorem Post.self {α : Type} {r : R α} {O : α → Hpp → Prop} {E : Nat → Hpp → Prop} (h1 : ∀ a h, r = .ok a h → O a h) (h2 : ∀ c h, r = .er c h → E c h) (h3 : r = .no → False) : Post r O E := by
  cases r with
  | ok a h => exact h1 a h rfl
  | er c h => exact h2 c h rfl
  | no => exact h3 rfl
/-! suites -/
theorem snd_snil : PSs X [] (rSs G xa cal .nil W) := PSs.imp pss_nil fun D σ H ⟨F, ι, h, ρ, r, en, P⟩ => P σ H ι Grow.refl r en
theorem snd_sunk {sts : List Stmt} : PSs X sts (rSs G xa cal .unk W) := ⟨fun _ _ _ _ _ _ ⟨_, _, _, _, _, _, P⟩ => by simp only [exs] at P; exact P.elim⟩
theorem snd_scons {s : S} {ss : Ss} {st : Stmt} {sts : List Stmt} (h1 : PS X st (rSt G xa cal s W)) (h2 : PSs X sts (rSs G xa cal ss W)) : PSs X (st :: sts) (rSs G xa cal (.cons s ss) W) :=
  PSs.imp (pss_cons h1 h2) fun D σ H ⟨F, ι, h, ρ, r, en, P⟩ => by
    refine ⟨F, ι, h, ρ, r, en, ?_⟩
    simp only [exs] at P
    cases e : ex cal s ρ h with
    | nx ρ' h' =>
      rw [e] at P
      exact fun σ' H' ι' g' r' e' => ⟨F, ι', h', ρ', r', e', PostO.from (show PostO G F xa ι H W D (exs cal ss ρ' h') from P) g'⟩
    | rt d h' => rw [e] at P; exact P
    | bk ρ' h' => rw [e] at P; exact P
    | ct ρ' h' => rw [e] at P; exact P
    | er c ρ' h' => rw [e] at P; exact P
    | no => rw [e] at P; exact P
/-! one statement -/
theorem snd_exp {e : E} {p : Expr} {pos : Pos} (he : PE X p (rE G xa cal e W)) (hs : swapsWith p none pos.line X.env = pure false) : PS X (.Expr p pos) (rSt G xa cal (.exp e) W) :=
  PS.imp (ps_expr he hs) fun D σ H ⟨F, ι, h, ρ, r, en, P⟩ => by
    simp only [ex] at P
    exact rE_of r en P.thn fun d h1 v H1 ι1 P1 g1 r1 s1 => P1 σ H1 ι1 g1 r1 (en.up g1 r.cellsOk)
theorem snd_ret {e : E} {p : Expr} {pos : Pos} (he : PE X p (rE G xa cal e W)) : PS X (.Return (some p) pos) (rSt G xa cal (.ret e) W) :=
  PS.imp (ps_ret he) fun D σ H ⟨F, ι, h, ρ, r, en, P⟩ => by
    simp only [ex] at P
    exact rE_of r en P.thn fun d h1 v H1 ι1 P1 g1 r1 s1 => P1 v H1 ι1 g1 r1 s1
theorem snd_retn {pos : Pos} : PS X (.Return none pos) (rSt G xa cal .retn W) :=
  PS.imp ps_retN fun D σ H ⟨F, ι, h, ρ, r, en, P⟩ => (show okp G F ι H D.rt .non h from P) .non H ι Grow.refl r rfl
theorem snd_pass {pos : Pos} : PS X (.Pass pos) (rSt G xa cal .pass W) := PS.imp ps_pass fun D σ H ⟨F, ι, h, ρ, r, en, P⟩ => P σ H ι Grow.refl r en
theorem snd_brk {pos : Pos} : PS X (.Break pos) (rSt G xa cal .brk W) := PS.imp ps_break fun D σ H ⟨F, ι, h, ρ, r, en, P⟩ => P σ H ι Grow.refl r en
theorem snd_cont {pos : Pos} : PS X (.Continue pos) (rSt G xa cal .cont W) := PS.imp ps_continue fun D σ H ⟨F, ι, h, ρ, r, en, P⟩ => P σ H ι Grow.refl r en
theorem snd_iff {e : E} {a b : Ss} {p : Expr} {sa sb : List Stmt} {pos : Pos} (hc : PT X p (rT G xa cal e W)) (ha : PSs X sa (rSs G xa cal a W)) (hb : PSs X sb (rSs G xa cal b W)) : PS X (.If p sa sb pos) (rSt G xa cal (.iff e a b) W) :=
  PS.imp (ps_if hc ha hb) fun D σ H ⟨F, ι, h, ρ, r, en, P⟩ => by
    simp only [ex] at P
    refine rT_of (O := fun b' h1 => PostO G F xa ι H W D (if b' = true then exs cal a ρ h1 else exs cal b ρ h1)) r en ?_ fun d h1 H1 ι1 P1 g1 r1 => ?_
    · cases e1 : tru (ev cal e ρ h) with
      | ok b' h1 => rw [e1] at P; cases b' <;> exact P
      | er c h1 => rw [e1] at P; exact P
      | no => rw [e1] at P; exact P
    · cases d with
      | true => exact ⟨F, ι1, h1, ρ, r1, en.up g1 r.cellsOk, PostO.from P1 g1⟩
      | false => exact ⟨F, ι1, h1, ρ, r1, en.up g1 r.cellsOk, PostO.from P1 g1⟩
/-! while: turn by turn -/
def whileN (c : PL.Env → Hpp → R Bool) (b : PL.Env → Hpp → O) : Nat → PL.Env → Hpp → Option O
  | 0, _, _ => none
  | n + 1, ρ, h => match c ρ h with
    | .ok true h1 => match b ρ h1 with
      | .nx ρ' h' => whileN c b n ρ' h'
      | .ct ρ' h' => whileN c b n ρ' h'
      | .bk ρ' h' => some (.nx ρ' h')
      | .no => none
      | .rt d h' => some (.rt d h')
      | .er x ρ' h' => some (.er x ρ' h')
    | .ok false h1 => some (.nx ρ h1)
    | .er x h1 => some (.er x ρ h1)
    | .no => none
theorem whileO_N (c : PL.Env → Hpp → R Bool) (b : PL.Env → Hpp → O) : ∀ (ρ : PL.Env) (h : Hpp) (o : O), whileO c b ρ h = some o → ∃ n, whileN c b n ρ h = some o := by
  refine whileO.partial_correctness c b (fun ρ h o => ∃ n, whileN c b n ρ h = some o) fun f ih ρ h o e => ?_
  cases e1 : c ρ h with
  | ok k h1 =>
    rw [e1] at e
    cases k with
    | true =>
      simp only at e
      cases e2 : b ρ h1 with
      | nx ρ' h' =>
        rw [e2] at e
        obtain ⟨n, hn⟩ := ih _ _ _ e
        exact ⟨n + 1, by simp only [whileN, e1, e2]; exact hn⟩
      | ct ρ' h' =>
        rw [e2] at e
        obtain ⟨n, hn⟩ := ih _ _ _ e
        exact ⟨n + 1, by simp only [whileN, e1, e2]; exact hn⟩
      | bk ρ' h' => rw [e2] at e; exact ⟨1, by simp only [whileN, e1, e2]; exact e⟩
      | rt d h' => rw [e2] at e; exact ⟨1, by simp only [whileN, e1, e2]; exact e⟩
      | er x ρ' h' => rw [e2] at e; exact ⟨1, by simp only [whileN, e1, e2]; exact e⟩
      | no => rw [e2] at e; cases e
    | false => exact ⟨1, by simp only [whileN, e1]; exact e⟩
  | er x h1 => rw [e1] at e; exact ⟨1, by simp only [whileN, e1]; exact e⟩
  | no => rw [e1] at e; cases e
theorem snd_whl (c : CtxS T G xa cal k N sc fb W X) {e : E} {b : Ss} {p : Expr} {sb : List Stmt} {pos : Pos} (hc : PT X p (rT G xa cal e W)) (hb : PSs X sb (rSs G xa cal b W)) : PS X (.While p sb [] pos) (rSt G xa cal (.whl e b) W) :=
  PS.imp (ps_while c.own hc hb) fun D σ H ⟨F, ι, h, ρ, r, en, P⟩ => by
    simp only [ex, whileL] at P
    cases e0 : whileO (fun ρ h => tru (ev cal e ρ h)) (fun ρ h => exs cal b ρ h) ρ h with
    | none => rw [e0] at P; exact P.elim
    | some o =>
      rw [e0] at P
      have P : PostO G F xa ι H W D o := P
      obtain ⟨n, hn⟩ := whileO_N _ _ ρ h o e0
      refine ⟨fun m σ H' => ∃ ι' h' ρ', Grow H ι H' ι' ∧ Rel G F ι' H' h' ∧ EnvR G F ι' H' ρ' σ ∧ whileN (fun ρ h => tru (ev cal e ρ h)) (fun ρ h => exs cal b ρ h) m ρ' h' = some o, ⟨n, ι, h, ρ, Grow.refl, r, en, hn⟩, ?_⟩
      rintro m σ1 H1 ⟨ι1, h1, ρ1, g1, r1, en1, hm⟩
      cases m with
      | zero => cases hm
      | succ m =>
        simp only [whileN] at hm
        refine rT_of (O := fun b' h2 => tru (ev cal e ρ1 h1) = .ok b' h2) r1 en1 (Post.self (fun _ _ z => z) (fun x h2 z => ?_) fun z => ?_) fun d h2 H2 ι2 z g2 r2 => ?_
        · rw [z] at hm; cases hm
          exact erx.from P g1
        · rw [z] at hm; cases hm
        · rw [z] at hm
          have en2 := en1.up g2 r1.cellsOk
          cases d with
          | false =>
            cases hm
            exact P σ1 H2 ι2 (g1.trans g2) r2 en2
          | true =>
            simp only at hm
            refine ⟨fun σ3 H3 => ∃ ι' h' ρ', Grow H ι H3 ι' ∧ Rel G F ι' H3 h' ∧ EnvR G F ι' H3 ρ' σ3 ∧ whileN (fun ρ h => tru (ev cal e ρ h)) (fun ρ h => exs cal b ρ h) m ρ' h' = some o, fun σ3 H3 z3 => ⟨m, Nat.lt_succ_self m, z3⟩, ?_⟩
            refine ⟨F, ι2, h2, ρ1, r2, en2, ?_⟩
            cases e3 : exs cal b ρ1 h2 with
            | nx ρ' h' => rw [e3] at hm; exact fun σ3 H3 ι3 g3 r3 en3 => ⟨ι3, h', ρ', (g1.trans g2).trans g3, r3, en3, hm⟩
            | ct ρ' h' => rw [e3] at hm; exact fun σ3 H3 ι3 g3 r3 en3 => ⟨ι3, h', ρ', (g1.trans g2).trans g3, r3, en3, hm⟩
            | bk ρ' h' => rw [e3] at hm; cases hm; exact fun σ3 H3 ι3 g3 r3 en3 => P σ3 H3 ι3 ((g1.trans g2).trans g3) r3 en3
            | rt d h' => rw [e3] at hm; cases hm; exact okp.from (g1.trans g2) P
            | er x ρ' h' => rw [e3] at hm; cases hm; exact erx.from P (g1.trans g2)
            | no => rw [e3] at hm; cases hm
theorem snd_for (c : CtxS T G xa cal k N sc fb W X) {tg : Tg} {it : PL.Itr} {b : Ss} {t p : Expr} {sb : List Stmt} {pos : Pos} (pp : plain p = true) (hi : PI X t p (rI G xa cal it W)) (hg : PG X t (rG G tg)) (hb : PSs X sb (rSs G xa cal b W)) : PS X (.For t p sb [] pos) (rSt G xa cal (.for_ tg it b) W) :=
  PS.imp (ps_for c.own c.c.calm hi hg hb (plain_fold pp X.env)) fun D σ H ⟨F, ι, h, ρ, r, en, P⟩ => by
    simp only [ex] at P
    refine ⟨F, ι, h, ρ, r, en, Post.self (fun s h1 e1 J H1 ι1 g1 r1 wk => ?_) (fun x h1 e1 => by rw [e1] at P; exact P) fun e1 => by rw [e1] at P; exact P⟩
    rw [e1] at P
    have P := PostO.from P g1
    refine ⟨fun i m σ2 H2 => i + m = s.items.length ∧ ∃ ι2 h2 ρ2, Grow H1 ι1 H2 ι2 ∧ Rel G F ι2 H2 h2 ∧ EnvR G F ι2 H2 ρ2 σ2 ∧ PostO G F xa ι1 H1 W D (forL s.ok (fun ρ d => sto tg ρ d) (fun ρ h => exs cal b ρ h) (s.items.drop i) ρ2 h2),
      ⟨s.items.length, by omega, ι1, h1, ρ, Grow.refl, r1, en.up g1 r.cellsOk, P⟩, ?_⟩
    rintro i m σ2 H2 ⟨him, ι2, h2, ρ2, gg, rr, en2, PP⟩
    cases m with
    | zero =>
      left
      have hn : s.items.length ≤ i := by omega
      rw [List.drop_eq_nil_of_le hn] at PP
      simp only [forL] at PP
      split at PP
      · rename_i ck
        exact ⟨(wk F H2 ι2 h2 (fun _ z => .inl z) gg rr ck i).2 (by omega), PP σ2 H2 ι2 gg rr en2⟩
      · exact PP.elim
    | succ m =>
      right
      have hi : i < s.items.length := by omega
      rw [List.drop_eq_getElem_cons hi] at PP
      simp only [forL] at PP
      split at PP
      rotate_left
      · exact PP.elim
      rename_i ck
      obtain ⟨go, yl⟩ := (wk F H2 ι2 h2 (fun _ z => .inl z) gg rr ck i).1 s.items[i] (List.getElem?_eq_getElem hi)
      refine ⟨go, fun σ3 H3 => i + 1 + m = s.items.length ∧ ∃ ι2 h2 ρ2, Grow H1 ι1 H3 ι2 ∧ Rel G F ι2 H3 h2 ∧ EnvR G F ι2 H3 ρ2 σ3 ∧ PostO G F xa ι1 H1 W D (forL s.ok (fun ρ d => sto tg ρ d) (fun ρ h => exs cal b ρ h) (s.items.drop (i + 1)) ρ2 h2),
        fun σ3 H3 z => ⟨m, by omega, z⟩, fun x H3 hy => ?_⟩
      obtain ⟨r3, g3, rv⟩ := yl x H3 hy
      split at PP
      · exact PP.elim
      rename_i ρ3 hsto
      refine ⟨F, ι2, h2, ρ2, s.items[i], ρ3, r3, en2.up g3 rr.cellsOk, rv, hsto, fun σ4 en4 _ => ?_⟩
      refine ⟨F, ι2, h2, ρ3, r3, en4, ?_⟩
      have gg3 := gg.trans g3
      cases e5 : exs cal b ρ3 h2 with
      | nx ρ' h' => rw [e5] at PP; exact fun σ5 H5 ι5 g5 r5 en5 => ⟨by omega, ι5, h', ρ', gg3.trans g5, r5, en5, PP⟩
      | ct ρ' h' => rw [e5] at PP; exact fun σ5 H5 ι5 g5 r5 en5 => ⟨by omega, ι5, h', ρ', gg3.trans g5, r5, en5, PP⟩
      | bk ρ' h' => rw [e5] at PP; exact fun σ5 H5 ι5 g5 r5 en5 => PP σ5 H5 ι5 (gg3.trans g5) r5 en5
      | rt d h' => rw [e5] at PP; exact okp.from gg3 PP
      | er x ρ' h' => rw [e5] at PP; exact erx.from PP gg3
      | no => rw [e5] at PP; exact PP.elim
theorem snd_aug (c : CtxS T G xa cal k N sc fb W X) {i : Nat} {op : Bop} {e : E} {x : Str} {p : Expr} {q pos : Pos} (h1 : N[i]? = some x) (h2 : stoC sc fb x = true) (he : PE X p (rE G xa cal e W)) : PS X (.AugAssign (.Name x q) (pyOp op) p pos) (rSt G xa cal (.aug i op e) W) := by
  obtain ⟨l1, l2⟩ := c.c.sto h2
  refine PS.imp (ps_aug (by rw [c.c.hN]; exact c.c.nd) (by rw [c.c.hN]; exact h1) l1 he (op_iop G.fa G.nf G.nx op) l2) fun D σ H ⟨F, ι, h, ρ, r, en, P⟩ => ?_
  rw [c.c.eqK]
  simp only [ex] at P
  split at P
  · rename_i x e1
    obtain ⟨v, e2, rv⟩ := en.2 i x e1
    refine ⟨v, e2, rE_of r en P.thn fun d h1 v1 H1 ι1 P1 g1 r1 s1 => ?_⟩
    have rv1 := rv.up g1 r.cellsOk
    have en1 := en.up g1 r.cellsOk
    split at P1
    · rename_i a b
      refine ⟨F, ι1, h1, .int a, .int b, _, r1, rv1, s1, ⟨a, b, rfl, rfl⟩, P1.thn.imp (fun z h2 P2 w H2 ι2 g2 r2 s2 => ?_) fun _ _ z => z⟩
      exact P2 _ H2 ι2 (g1.trans g2) r2 ((en1.up g2 r1.cellsOk).set s2)
    · exact P1.elim
  · exact P.elim
end
end PL
end
section
set_option Elab.async false
set_option linter.all false
set_option maxRecDepth 100000
set_option maxHeartbeats 1000000
/-! PLS15: stores, raise, try. -/
namespace PL
open PySem PySem.Spec PyProof.Rows L2
/-! ### the checker for statements -/
mutual
def chkL (T : Tab) (N : List Str) (sc : Scope) (fb : Str → Bool) : Lv → Expr → Bool
  | .nil, _ => false
  | .name i, p => match vName p with
    | some x => decide (N[i]? = some x) && stoC sc fb x
    | none => false
  | .tup ts, p => match vTup p with
    | some es => plainAll es && chkLs T N sc fb ts es
    | none => false
  | .cons _ _, _ => false
  | .sub a b, p => match vSub p with
    | some q => chkE T N a sc fb q.1 && chkE T N b sc fb q.2
    | none => false
def chkLs (T : Tab) (N : List Str) (sc : Scope) (fb : Str → Bool) : Lv → List Expr → Bool
  | .nil, es => es.isEmpty
  | .cons t ts, es => match es with
    | e :: r => chkL T N sc fb t e && chkLs T N sc fb ts r
    | [] => false
  | .name _, _ => false
  | .tup _, _ => false
  | .sub _ _, _ => false
end
def PostL (G : Ge) (F : Addr → Prop) (xa : Nat → Addr) (ι : List Addr) (H : Hp) (W : WX) (Q : L2.St → Hp → Prop) (o : O) : Prop := PostO G F xa ι H W { nx := Q, rt := fun _ _ => False } o
def rL (G : Ge) (xa : Nat → Addr) (cal : Cal) (t : Lv) (W : WX) : TG := fun v σ H Q => ∃ (F : Addr → Prop) (ι : List Addr) (h : Hpp) (ρ : List (Option D)) (d : D), Rel G F ι H h ∧ EnvR G F ι H ρ σ ∧ VR G F ι H d v ∧ PostL G F xa ι H W Q (asg cal t d ρ h)
def rLs (G : Ge) (xa : Nat → Addr) (cal : Cal) (ts : Lv) (W : WX) : TGs := fun us σ H Q => ∃ (F : Addr → Prop) (ι : List Addr) (h : Hpp) (ρ : List (Option D)) (ds : List D), Rel G F ι H h ∧ EnvR G F ι H ρ σ ∧ VRs G F ι H ds us ∧ PostL G F xa ι H W Q (asgs cal ts ds ρ h)
section
variable {T : Tab} {G : Ge} {xa : Nat → Addr} {cal : Cal} {k : Nat} {N : List Str} {sc : Scope} {fb : Str → Bool} {W : WX} {X : Cx} {F : Addr → Prop} {ι : List Addr} {H : Hp} {h : Hpp} {ρ : List (Option D)} {σ : L2.St} {Q : VK} {D : Ends}
theorem chkL_plain : ∀ {t : Lv} {p : Expr}, chkL T N sc fb t p = true → plain p = true
  | .name i, p, ok => by
    simp only [chkL] at ok
    split at ok
    · rename_i x e
      obtain ⟨pos, rfl⟩ := vName_eq e
      rfl
    · cases ok
  | .tup ts, p, ok => by
    simp only [chkL] at ok
    split at ok
    · rename_i x e
      obtain ⟨⟨_, _, rfl⟩, _⟩ := vTup_eq e
      rfl
    · cases ok
  | .sub a b, p, ok => by
    simp only [chkL] at ok
    split at ok
    · rename_i x e
      obtain ⟨⟨_, rfl⟩, _⟩ := vSub_eq e
      rfl
    · cases ok
  | .nil, p, ok => by simp [chkL] at ok
  | .cons _ _, p, ok => by simp [chkL] at ok
theorem lvs_len : ∀ {ts : Lv} {ps : List Expr}, chkLs T N sc fb ts ps = true → ps.length = ts.len
  | .nil, ps, ok => by
    cases ps with
    | nil => rfl
    | cons _ _ => simp [chkLs] at ok
  | .name _, ps, ok => by simp [chkLs] at ok
  | .tup _, ps, ok => by simp [chkLs] at ok
  | .sub _ _, ps, ok => by simp [chkLs] at ok
  | .cons t ts, ps, ok => by
    cases ps with
    | nil => simp [chkLs] at ok
    | cons p ps =>
      simp only [chkLs, Bool.and_eq_true] at ok
      simp [Lv.len, lvs_len ok.2]
theorem plain_sub {o i : Expr} (h : plain i = true) (pos : Pos) (env : PySem.Env) : ∀ v, assign (.Subscript o i pos) env v = (do
      let ov ← holding [v] (eval o env)
      let iv ← holding [v, ov] (eval i env)
      standAt pos
      holding [v, ov, iv] (PySem.setItem ov iv v)
      release [v, ov, iv] []) := by
  cases i <;> first | (intro _; rfl) | cases h
mutual
theorem snd_lv (c : Ctx T G xa cal k N sc fb W X) : ∀ (t : Lv) (p : Expr), chkL T N sc fb t p = true → PG X p (rL G xa cal t W)
  | .nil, p, ok => by simp [chkL] at ok
  | .cons _ _, p, ok => by simp [chkL] at ok
  | .name i, p, ok => by
    simp only [chkL] at ok
    split at ok
    · rename_i x e
      obtain ⟨pos, rfl⟩ := vName_eq e
      rw [Bool.and_eq_true] at ok
      obtain ⟨o1, o2⟩ := ok
      obtain ⟨l1, l2⟩ := c.sto o2
      refine PG.imp (pg_name (by rw [c.hN]; exact c.nd) (by rw [c.hN]; exact of_decide_eq_true o1) l1 l2) fun v σ H Q ⟨F, ι, h, ρ, d, r, en, rv, P⟩ => ?_
      simp only [asg] at P
      exact P _ H ι Grow.refl r (en.set rv)
    · cases ok
  | .tup ts, p, ok => by
    simp only [chkL] at ok
    split at ok
    · rename_i es e
      obtain ⟨⟨kk, pos, rfl⟩, hl⟩ := vTup_eq e
      rw [Bool.and_eq_true] at ok
      obtain ⟨o1, o2⟩ := ok
      obtain ⟨l1, l2⟩ := plainAll_asg o1 X.env
      have hgs := snd_lvs c ts es o2
      refine ⟨fun pins s σ H v u Q I rv0 ⟨F, ι, h, ρ, d, r, en, rv, P⟩ => ?_⟩
      simp only [asg] at P
      split at P
      · rename_i ds
        obtain ⟨a, vs, rfl, t, u'⟩ := rv
        split at P
        · rename_i hlen
          exact (pg_tup c.calm hgs l1 l2).run pins s σ H _ u Q I rv0 ⟨a, vs, rfl, by rw [c.hK]; exact t, by rw [VRs.length u', hlen, lvs_len o2], F, ι, h, ρ, ds, r, en, u', P⟩
        · exact P.elim
      · exact P.elim
    · cases ok
  | .sub a b, p, ok => by
    simp only [chkL] at ok
    split at ok
    · rename_i q e
      obtain ⟨⟨pos, rfl⟩, pl⟩ := vSub_eq e
      simp only [Bool.and_eq_true] at ok
      have ih1 := (sndE a sc fb q.1 ok.1 W X c).1
      have ih2 := (sndE b sc fb q.2 ok.2 W X c).1
      refine PG.imp (pg_sub ih1 ih2 (set_item G.fa G.nf G.nx) (plain_sub pl pos X.env)) fun v σ H Q ⟨F, ι, h, ρ, d, r, en, rv, P⟩ => ?_
      rw [c.eqK]
      simp only [asg] at P
      refine rE_of (O := fun x h1 => PostL G F xa ι H W Q (match ev cal b ρ h1 with
        | .ok y h2 => match setItem x y d h2 with
          | some h3 => .nx ρ h3
          | none => .no
        | .er c h2 => .er c ρ h2
        | .no => .no)) r en (Post.self (fun x h1 e1 => by rw [e1] at P; exact P) (fun x h1 e1 => by rw [e1] at P; exact P) fun e1 => by rw [e1] at P; exact P) fun d1 h1 v1 H1 ι1 P1 g1 r1 s1 => ?_
      have P1 := PostO.from P1 g1
      refine rE_of (O := fun y h2 => PostL G F xa ι1 H1 W Q (match setItem d1 y d h2 with
          | some h3 => .nx ρ h3
          | none => .no)) r1 (en.up g1 r.cellsOk) (Post.self (fun x h1 e1 => by rw [e1] at P1; exact P1) (fun x h1 e1 => by rw [e1] at P1; exact P1) fun e1 => by rw [e1] at P1; exact P1) fun d2 h2 v2 H2 ι2 P2 g2 r2 s2 => ?_
      cases e3 : setItem d1 d2 d h2 with
      | none => rw [e3] at P2; exact P2.elim
      | some h3 =>
        rw [e3] at P2
        refine ⟨F, ι2, h2, d1, d2, d, h3, r2, s1.up g2 r1.cellsOk, s2, (rv.up g1 r.cellsOk).up g2 r1.cellsOk, e3, fun H3 g3 r3 => ?_⟩
        exact P2 σ H3 ι2 (g2.trans g3) r3 (((en.up g1 r.cellsOk).up g2 r1.cellsOk).up g3 r2.cellsOk)
    · cases ok
theorem snd_lvs (c : Ctx T G xa cal k N sc fb W X) : ∀ (ts : Lv) (ps : List Expr), chkLs T N sc fb ts ps = true → PGs X ps (rLs G xa cal ts W)
  | .nil, ps, ok => by
    cases ps with
    | nil =>
      refine PGs.imp pgs_nil fun v σ H Q ⟨F, ι, h, ρ, d, r, en, rv, P⟩ => ?_
      cases d with
      | nil => exact ⟨rv, P σ H ι Grow.refl r en⟩
      | cons _ _ => simp only [asgs] at P; exact P.elim
    | cons _ _ => simp [chkLs] at ok
  | .name _, ps, ok => by simp [chkLs] at ok
  | .tup _, ps, ok => by simp [chkLs] at ok
  | .sub _ _, ps, ok => by simp [chkLs] at ok
  | .cons t ts, ps, ok => by
    cases ps with
    | nil => simp [chkLs] at ok
    | cons p ps =>
      simp only [chkLs, Bool.and_eq_true] at ok
      refine PGs.imp (pgs_cons (snd_lv c t p ok.1) (snd_lvs c ts ps ok.2) (by rw [plain_asg (chkL_plain ok.1)]; rfl)) fun v σ H Q ⟨F, ι, h, ρ, ds, r, en, rv, P⟩ => ?_
      cases ds with
      | nil => simp only [asgs] at P; exact P.elim
      | cons d ds =>
        simp only [asgs] at P
        obtain ⟨u, us, rfl, ru, rus⟩ := rv
        refine ⟨u, us, rfl, F, ι, h, ρ, d, r, en, ru, ?_⟩
        cases e : asg cal t d ρ h with
        | nx ρ1 h1 =>
          rw [e] at P
          exact fun σ' H' ι' g' r' e' => ⟨F, ι', h1, ρ1, ds, r', e', rus.up g' r.cellsOk, PostO.from P g'⟩
        | rt d h' => rw [e] at P; exact P
        | bk ρ' h' => rw [e] at P; exact P
        | ct ρ' h' => rw [e] at P; exact P
        | er c ρ' h' => rw [e] at P; exact P
        | no => rw [e] at P; exact P
end
end
end PL
end
section
set_option Elab.async false
set_option linter.all false
set_option maxRecDepth 100000
set_option maxHeartbeats 1000000
/-! PLS16: raise, try, assignment statements; all statements together. -/
namespace PL
open PySem PySem.Spec PyProof.Rows L2
/-! ### views of statements -/
def noComp : Expr → Bool
  | .ListComp _ _ _ _ => false
  | .SetComp _ _ _ _ => false
  | .DictComp _ _ _ _ _ => false
  | _ => true
theorem swaps_no {e : Expr} (h : noComp e = true) (t : Option Expr) (l : Nat) (env : PySem.Env) : swapsWith e t l env = pure false := by
  cases e <;> first | rfl | cases h
def isTupE : Expr → Bool
  | .Tuple _ _ _ => true
  | _ => false
theorem stores_no {t e : Expr} (h : isTupE e = false) (env : PySem.Env) : swappedStores [t] e env = pure none := by
  cases e <;> first | rfl | (cases h; done) | (cases t <;> rfl)
theorem stores_noT {t e : Expr} (h : ∀ a b c, t ≠ .Tuple a b c) (h2 : ∀ a b, t ≠ .List a b) (env : PySem.Env) : swappedStores [t] e env = pure none := by
  cases t <;> first | rfl | exact absurd rfl (h _ _ _) | exact absurd rfl (h2 _ _) | (cases e <;> rfl)
/-- which names a tuple display is stored to in one go -/
def swF (sc : Scope) (ts vs : List Expr) : Option (Option (List Str)) :=
  if (!(ts.length == 2 || ts.length == 3) || vs.length != ts.length) = true then some none
  else if (vs.any fun | .Starred .. => true | _ => false) = true then some none
  else
    let line := (ts.head?.map (·.pos.line)).getD 0
    let names := ts.filterMap fun
      | .Name id pos => if sc.names.lookup id == some .local && pos.line == line then some id else none
      | _ => none
    if (names.length != ts.length || names.eraseDups.length != names.length) = true then some none
    else if vs.all (foldedForSure 8) = true then some none
    else if vs.all (constantsAlone 8) = true then none
    else some (some names)
theorem swF_ok {sc : Scope} {env : PySem.Env} {ts vs : List Expr} {k k2 : Nat} {p p2 : Pos} {r : Option (List Str)} (hs : env.scope = sc) (hk : sc.kind = .function) (h : swF sc ts vs = some r) : swappedStores [.Tuple ts k p] (.Tuple vs k2 p2) env = pure r := by
  have hb : env.blockKind = .function := by
    unfold Env.blockKind
    rw [hs, hk]; rfl
  have hkk : ∀ x, env.kindOf x = sc.names.lookup x := fun x => by rw [← hs]; rfl
  unfold swF at h
  unfold swappedStores
  simp only [hb, hkk, bne_self_eq_false, Bool.or_false]
  split at h
  · rename_i c1
    cases h
    exact if_pos c1
  rename_i c1
  refine (if_neg c1).trans ?_
  split at h
  · rename_i c2
    cases h
    exact if_pos c2
  rename_i c2
  refine (if_neg c2).trans ?_
  simp only at h
  split at h
  · rename_i c3
    cases h
    exact if_pos c3
  rename_i c3
  refine (if_neg c3).trans ?_
  split at h
  · rename_i c4
    cases h
    exact if_pos c4
  rename_i c4
  refine (if_neg c4).trans ?_
  split at h
  · cases h
  rename_i c5
  cases h
  exact if_neg c5
end PL
end
section
set_option Elab.async false
set_option linter.all false
set_option maxRecDepth 100000
set_option maxHeartbeats 1000000
/-! PLS17: raise, try, assignments. -/
namespace PL
open PySem PySem.Spec PyProof.Rows L2
theorem swaps_tup {v : Expr} {es : List Expr} {k : Nat} {p : Pos} {l : Nat} {env : PySem.Env} : swapsWith v (some (.Tuple es k p)) l env = pure false := by cases v <;> rfl
theorem swaps_sub {v a b : Expr} {p : Pos} {l : Nat} {env : PySem.Env} : swapsWith v (some (.Subscript a b p)) l env = pure false := by cases v <;> rfl
theorem sw_cell {elt : Expr} {gs : List Comprehension} {scope : Scope} {pos py : Pos} {y : Str} {l : Nat} {env : PySem.Env} (hy : env.scope.names.lookup y = some .cell) : swapsWith (.ListComp elt gs scope pos) (some (.Name y py)) l env = pure false := by
  have e : env.kindOf y = some .cell := hy
  show (pure (env.blockKind == .function && env.kindOf y == some .local && py.line == pos.line && !(scope.names.any fun (n, k) => n == y && (k == .local || k == .cell))) : Sem Bool) = pure false
  rw [e]
  congr 1
  have : (some NameKind.cell == some NameKind.local) = false := rfl
  rw [this, Bool.and_false, Bool.false_and, Bool.false_and]
section
variable {X : Cx}
theorem pmk_own0 {C : Addr} {bmB : List Value} {B newId initId : String} {x : Str} {p pos : Pos} (F : ExcBaseFacts B newId initId bmB) (q : PySem.W.excIn X.K C bmB newId = true) (gC : X.mg x = some (.ref C))
    (kC : PySem.W.keepIn X.K (.ref C) = true) (r : Raises X (.ref C)) (hg : Gl X x) (hdb : (x == ("__debug__" : Str)) = false) :
    PMk X (.Call (.Name x p) [] [] pos) (fun σ H Q => Q (.ref C) none H) := by
  intro pins s σ H Q I h
  refine wpAny_Call_Name_kw (ld_glob I hg gC ?_ hdb)
  refine PySem.W.callWith_K0 I.kIn kC ?_
  show wpAny _ _ (call (.ref C) []) _ _ _
  obtain ⟨bm, N, nm, qn, bs, hdct, sn, sub, ab, col, dd, k0, k1, k2, k3, k5, mN, hC, hN, hni, T⟩ := exc_obj I.kIn q
  refine wpAny_call_exc_subT F T hC hN hni (fun h' e hm => ?_) (Nat.zero_le _)
  exact mk_of I hm r h (I.hok.gone hm.new)
end
/-! constants of a handler -/
def cstV : D → Option V
  | .non => some .non
  | .bl b => some (.bl b)
  | .int i => some (.int i)
  | .str s => some (.str s)
  | _ => none
def chkC (d : D) (p : Expr) : Bool := match asConst p with
  | some (c, _, _) => match d, c with
    | .non, .none => true
    | .bl b, .bool c => b == c
    | .int i, .int j => decide (i = j)
    | .str s, .str t => decide (s = t)
    | _, _ => false
  | none => false
theorem chkC_ok {d : D} {p : Expr} (ok : chkC d p = true) : ∃ v, (∀ X : Cx, PE X p (tC v)) ∧ ∀ (G : Ge) (F : Addr → Prop) (ι : List Addr) (H : Hp), VR G F ι H d v := by
  unfold chkC at ok
  split at ok
  · rename_i c j pos e
    rw [asConst_eq e]
    simp only
    split at ok
    · exact ⟨.non, fun X => pe_non, fun _ _ _ _ => rfl⟩
    · cases (eq_of_beq ok)
      exact ⟨.bl _, fun X => pe_bl, fun _ _ _ _ => rfl⟩
    · cases (of_decide_eq_true ok)
      exact ⟨.int _, fun X => pe_int, fun _ _ _ _ => rfl⟩
    · cases (of_decide_eq_true ok)
      exact ⟨.str _, fun X => pe_str, fun _ _ _ _ => rfl⟩
    · cases ok
  · cases ok
def chkH (T : Tab) (sc : Scope) : Hs → List ExceptHandler → Bool
  | .nil, hs => hs.isEmpty
  | .cons c d r, hs => match hs with
    | .ExceptHandler (some (.Name x _)) none [.Return (some p) _] _ :: hs => decide (T.xname[c]? = some x) && glC sc x && goodName x && chkC d p && chkH T sc r hs
    | _ => false
section
variable {T : Tab} {G : Ge} {xa : Nat → Addr} {cal : Cal} {k : Nat} {N : List Str} {sc : Scope} {fb : Str → Bool} {W : WX} {X : Cx} {F : Addr → Prop} {ι : List Addr} {H : Hp} {h : Hpp} {ρ : List (Option D)} {σ : L2.St} {Q : VK} {D : Ends}
theorem snd_raise (c : Ctx T G xa cal k N sc fb W X) {e : Nat} {x : Str} {p pos pos2 : Pos} (h1 : T.xname[e]? = some x) (h2 : glC sc x = true) (h3 : goodName x = true) : PS X (.Raise (some (.Call (.Name x p) [] [] pos)) none pos2) (rSt G xa cal (.raise e) W) := by
  obtain ⟨gm, kp, rs, bm, B, ni, ii, F, q⟩ := c.exc e x h1
  refine PS.imp (ps_raise c.calm c.takes (pmk_own0 F q gm kp rs (c.gl h2) (good_is h3).1)) fun D σ H ⟨F, ι, h, ρ, r, en, P⟩ => ?_
  have P : erx G F xa ι H W e h := P
  exact P (by rw [c.nx]; exact (List.getElem?_eq_some_iff.mp h1).1) H ι Grow.refl r none σ
theorem hds_ok (c : CtxS T G xa cal k N sc fb W X) : ∀ (hs : Hs) (l : List ExceptHandler), chkH T sc hs l = true → ∃ L, HdsOk X l L ∧ ∀ (D : Ends) (e : Nat) (ρ' : List (Option PL.D)) (h' : Hpp) (F : Addr → Prop) (ι : List Addr) (H : Hp), e < G.nx → PostO G F xa ι H W D (exh cal hs e ρ' h') → Rel G F ι H h' →
      ∀ dx σ, wMany X.K W D L (.ref (xa e)) dx σ H
  | .nil, l, ok => by
    cases l with
    | nil => exact ⟨[], .nil, fun D e ρ' h' F ι H he P r dx σ => (show erx G F xa ι H W e h' from P) he H ι Grow.refl r dx σ⟩
    | cons _ _ => simp [chkH] at ok
  | .cons j d hs, l, ok => by
    simp only [chkH] at ok
    split at ok
    · rename_i x np p rp pos' l'
      simp only [Bool.and_eq_true] at ok
      obtain ⟨⟨⟨⟨o1, o2⟩, o3⟩, o4⟩, o5⟩ := ok
      have o1 := of_decide_eq_true o1
      obtain ⟨L, hL, sem⟩ := hds_ok c hs l' o5
      obtain ⟨v, hv, hr⟩ := chkC_ok o4
      obtain ⟨gm, kp, rs, _⟩ := c.c.exc j x o1
      have hj : j < G.nx := by rw [c.c.nx]; exact (List.getElem?_eq_some_iff.mp o1).1
      refine ⟨(.ref (xa j), fun _ _ _ => tRet (tC v)) :: L, .cons ⟨c.c.gl o2, (good_is o3).1, .inl gm⟩ (fun a oe cls dd pn _ _ => pss_one (ps_ret (hv _))) hL, fun D e ρ' h' F ι H he P r dx σ => ?_⟩
      refine ⟨decide (e = j), c.c.exm e j he hj, fun eb a _ => ?_, fun eb => ?_⟩
      · have eb := of_decide_eq_true eb
        subst eb
        simp only [exh, if_pos] at P
        exact (show okp G F ι H D.rt d h' from P) v H ι Grow.refl r (hr G F ι H)
      · have eb := of_decide_eq_false eb
        simp only [exh] at P
        rw [if_neg (fun z => eb z.symm)] at P
        exact sem D e ρ' h' F ι H he P r dx σ
    · cases ok
theorem CtxS.tr (c : CtxS T G xa cal k N sc fb W X) {W' : WX} {pn : List (Addr × Obj)} {xe : Value → Shared → Prop} (tk : Takes (X.tr pn xe) W') (own : PassesOwn (model X.prog X.w) X.A X.env xe) : CtxS T G xa cal k N sc fb W' (X.tr pn xe) where
  c := ⟨c.c.hK, c.c.hN, c.c.nd, c.c.sc, c.c.fn, c.c.calm, c.c.room, tk, c.c.fnm, c.c.fns, c.c.nf, c.c.nx, c.c.exc, c.c.exm, c.c.free, c.c.cst⟩
  own := own
  stk := c.stk
  fr := c.fr
  kind := c.kind
theorem snd_tr (c : CtxS T G xa cal k N sc fb W X) {b : Ss} {hs : Hs} {body : List Stmt} {l : List ExceptHandler} {pos : Pos} (ne : l.isEmpty = false) (ok : chkH T sc hs l = true) (hb : ∀ W' X', CtxS T G xa cal k N sc fb W' X' → PSs X' body (rSs G xa cal b W')) : PS X (.Try body l [] [] pos) (rSt G xa cal (.tr b hs) W) := by
  obtain ⟨L, hL, sem⟩ := hds_ok c hs l ok
  cases l with
  | nil => cases ne
  | cons h0 l =>
    refine PS.imp (ps_try_many (tb := fun W' => rSs G xa cal b W') c.stk c.fr c.c.takes (fun W' pn xe tk own => hb W' _ (c.tr tk own)) hL) fun D σ H ⟨F, ι, h, ρ, r, en, P⟩ => ?_
    refine ⟨F, ι, h, ρ, r, en, ?_⟩
    simp only [ex] at P
    cases e : exs cal b ρ h with
    | er x ρ' h' =>
      rw [e] at P
      exact fun hx H' ι' g' r' dx σ' => sem D x ρ' h' F ι' H' hx (PostO.from P g') r' dx σ'
    | nx ρ' h' => rw [e] at P; exact P
    | rt d h' => rw [e] at P; exact P
    | bk ρ' h' => rw [e] at P; exact P
    | ct ρ' h' => rw [e] at P; exact P
    | no => rw [e] at P; exact P.elim
/-! stores end as they should -/
def stoO : O → Prop
  | .nx _ _ => True
  | .er _ _ _ => True
  | .no => True
  | _ => False
mutual
theorem asg_o : ∀ (t : Lv) (d : PL.D) (ρ : List (Option PL.D)) (h : Hpp), stoO (asg cal t d ρ h)
  | .nil, d, ρ, h => by simp [asg, stoO]
  | .name i, d, ρ, h => by simp [asg, stoO]
  | .tup ts, d, ρ, h => by
    simp only [asg]
    split
    · split
      · exact asgs_o ts _ ρ h
      · trivial
    · trivial
  | .cons _ _, d, ρ, h => by simp [asg, stoO]
  | .sub a b, d, ρ, h => by
    simp only [asg]
    split
    · split
      · split <;> trivial
      · trivial
      · trivial
    · trivial
    · trivial
theorem asgs_o : ∀ (t : Lv) (d : List PL.D) (ρ : List (Option PL.D)) (h : Hpp), stoO (asgs cal t d ρ h)
  | .nil, d, ρ, h => by cases d <;> simp [asgs, stoO]
  | .name i, d, ρ, h => by simp [asgs, stoO]
  | .tup ts, d, ρ, h => by simp [asgs, stoO]
  | .sub _ _, d, ρ, h => by simp [asgs, stoO]
  | .cons t ts, d, ρ, h => by
    cases d with
    | nil => simp [asgs, stoO]
    | cons d ds =>
      simp only [asgs]
      have q := asg_o t d ρ h
      cases e : asg cal t d ρ h with
      | nx ρ' h' => exact asgs_o ts ds ρ' h'
      | rt _ _ => rw [e] at q; exact q
      | bk _ _ => rw [e] at q; exact q
      | ct _ _ => rw [e] at q; exact q
      | er _ _ _ => trivial
      | no => trivial
end
theorem PostO.toL {o : O} (p : PostO G F xa ι H W D o) (s : stoO o) : PostL G F xa ι H W D.nx o := by
  cases o with
  | nx ρ' h' => exact p
  | er c ρ' h' => exact p
  | no => exact p
  | rt _ _ => exact s.elim
  | bk _ _ => exact s.elim
  | ct _ _ => exact s.elim
theorem snd_asg {t : Lv} {e : E} {tg p : Expr} {pos : Pos} (pt : plain tg = true) (he : PE X p (rE G xa cal e W)) (hg : PG X tg (rL G xa cal t W)) (hs : swapsWith p (some tg) pos.line X.env = pure false) (hw : swappedStores [tg] p X.env = pure none) : PS X (.Assign [tg] p pos) (rSt G xa cal (.asg t e) W) :=
  PS.imp (ps_asg he hg hs hw (by rw [plain_asg pt]; rfl)) fun D σ H ⟨F, ι, h, ρ, r, en, P⟩ => by
    simp only [ex] at P
    refine rE_of r en P.thn fun d h1 v H1 ι1 P1 g1 r1 s1 => ?_
    exact ⟨F, ι1, h1, ρ, d, r1, en.up g1 r.cellsOk, s1, (PostO.from P1 g1).toL (asg_o t d ρ h1)⟩
/-- a comprehension's list to a name on its line -/
theorem snd_asgC {i : Nat} {e : E} {y : Str} {py : Pos} {p : Expr} {pos : Pos} (q : PS X (.Assign [.Name y py] p pos) (tAsg (rE G xa cal e W) (gName i))) : PS X (.Assign [.Name y py] p pos) (rSt G xa cal (.asg (.name i) e) W) :=
  PS.imp q fun D σ H ⟨F, ι, h, ρ, r, en, P⟩ => by
    simp only [ex] at P
    refine rE_of r en P.thn fun d h1 v H1 ι1 P1 g1 r1 s1 => ?_
    exact P1 _ H1 ι1 g1 r1 ((en.up g1 r.cellsOk).set s1)
theorem snd_par2 (c : CtxS T G xa cal k N sc fb W X) {i j : Nat} {x y : Str} {a b : Expr} {es : Es} {px py pt pos : Pos} {kt k2 : Nat} {pt2 : Pos} (h1 : N[i]? = some x) (h2 : N[j]? = some y) (ne : i ≠ j) (l1 : sc.names.lookup x = some .local) (l2 : sc.names.lookup y = some .local)
    (sw : swF sc [.Name x px, .Name y py] [a, b] = some (some [x, y])) (hs : PA X [a, b] (rA G xa cal es W)) :
    PS X (.Assign [.Tuple [.Name x px, .Name y py] kt pt] (.Tuple [a, b] k2 pt2) pos) (rSt G xa cal (.asg (.tup (.cons (.name i) (.cons (.name j) .nil))) (.tup es)) W) :=
  PS.imp (ps_par c.c.calm (by rw [c.c.hN]; exact c.c.nd) (by rw [c.c.hN]; exact h1) (by rw [c.c.hN]; exact h2) ne (by rw [c.c.sc]; exact l1) (by rw [c.c.sc]; exact l2) hs (swF_ok c.c.sc c.kind sw) rfl) fun D σ H ⟨F, ι, h, ρ, r, en, P⟩ => by
    simp only [ex, ev] at P
    have P2 : Post (evs cal es ρ h) (fun ds h1 => PostO G F xa ι H W D (asg cal (.tup (.cons (.name i) (.cons (.name j) .nil))) (.tup ds) ρ h1)) (erx G F xa ι H W) := by
      cases e : evs cal es ρ h with
      | ok ds h1 => rw [e] at P; exact P
      | er c h1 => rw [e] at P; exact P
      | no => rw [e] at P; exact P
    refine rA_of r en P2 fun ds h1 vs H1 ι1 P1 g1 r1 s1 => ?_
    simp only [asg] at P1
    split at P1
    · rename_i hl
      match ds, hl, s1, P1 with
      | [d1, d2], _, s1, P1 =>
        obtain ⟨v1, v2, rfl, s1, s2⟩ := VRs.two_of s1
        simp only [asgs, asg] at P1
        exact ⟨v1, v2, rfl, P1 _ H1 ι1 g1 r1 (((en.up g1 r.cellsOk).set s1).set s2)⟩
    · exact P1.elim
theorem snd_par3 (c : CtxS T G xa cal k N sc fb W X) {i j l : Nat} {x y z : Str} {a b d : Expr} {es : Es} {px py pz pt pos : Pos} {kt k2 : Nat} {pt2 : Pos} (h1 : N[i]? = some x) (h2 : N[j]? = some y) (h3 : N[l]? = some z) (n1 : i ≠ j) (n2 : i ≠ l) (n3 : j ≠ l) (l1 : sc.names.lookup x = some .local) (l2 : sc.names.lookup y = some .local) (l3 : sc.names.lookup z = some .local)
    (sw : swF sc [.Name x px, .Name y py, .Name z pz] [a, b, d] = some (some [x, y, z])) (hs : PA X [a, b, d] (rA G xa cal es W)) :
    PS X (.Assign [.Tuple [.Name x px, .Name y py, .Name z pz] kt pt] (.Tuple [a, b, d] k2 pt2) pos) (rSt G xa cal (.asg (.tup (.cons (.name i) (.cons (.name j) (.cons (.name l) .nil)))) (.tup es)) W) :=
  PS.imp (ps_par3 c.c.calm (by rw [c.c.hN]; exact c.c.nd) (by rw [c.c.hN]; exact h1) (by rw [c.c.hN]; exact h2) (by rw [c.c.hN]; exact h3) n1 n2 n3 (by rw [c.c.sc]; exact l1) (by rw [c.c.sc]; exact l2) (by rw [c.c.sc]; exact l3) hs (swF_ok c.c.sc c.kind sw) rfl) fun D σ H ⟨F, ι, h, ρ, r, en, P⟩ => by
    simp only [ex, ev] at P
    have P2 : Post (evs cal es ρ h) (fun ds h1 => PostO G F xa ι H W D (asg cal (.tup (.cons (.name i) (.cons (.name j) (.cons (.name l) .nil)))) (.tup ds) ρ h1)) (erx G F xa ι H W) := by
      cases e : evs cal es ρ h with
      | ok ds h1 => rw [e] at P; exact P
      | er c h1 => rw [e] at P; exact P
      | no => rw [e] at P; exact P
    refine rA_of r en P2 fun ds h1 vs H1 ι1 P1 g1 r1 s1 => ?_
    simp only [asg] at P1
    split at P1
    · rename_i hl
      match ds, hl, s1, P1 with
      | [d1, d2, d3], _, s1, P1 =>
        obtain ⟨v1, t, rfl, sv1, st⟩ := s1
        obtain ⟨v2, v3, rfl, s2, s3⟩ := VRs.two_of st
        simp only [asgs, asg] at P1
        exact ⟨v1, v2, v3, rfl, P1 _ H1 ι1 g1 r1 ((((en.up g1 r.cellsOk).set sv1).set s2).set s3)⟩
    · exact P1.elim
end
end PL
end
section
set_option Elab.async false
set_option linter.all false
set_option maxRecDepth 100000
set_option maxHeartbeats 1000000
/-! PLS18: all statements together. -/
namespace PL
open PySem PySem.Spec PyProof.Rows L2
def sameLine (sc : Scope) (y : Str) (py : Pos) (v : Expr) : Bool := match sc.names.lookup y with
  | some .cell => match v with
    | .ListComp _ _ _ _ => true
    | _ => false
  | _ => false
def setC (sc : Scope) (y : Str) (py : Pos) (e : E) (v : Expr) : Bool := match e, v with
  | .comp _ _ _ _ _ _, .ListComp _ _ scope p => decide (sc.names.lookup y = some .local) && (py.line == p.line) && !(scope.names.any fun (n, k) => n == y && (k == .local || k == .cell))
  | _, _ => false
def chkPar (T : Tab) (N : List Str) (sc : Scope) (fb : Str → Bool) (ts : Lv) (es vs : List Expr) (names : List Str) (e : E) : Bool := match ts, es, vs, e with
  | .cons (.name i) (.cons (.name j) .nil), [.Name x _, .Name y _], [a, b], .tup ees =>
    decide (N[i]? = some x) && decide (N[j]? = some y) && decide (i ≠ j) && decide (sc.names.lookup x = some .local) && decide (sc.names.lookup y = some .local) && decide (names = [x, y]) && chkEs T N ees sc fb [a, b]
  | .cons (.name i) (.cons (.name j) (.cons (.name l) .nil)), [.Name x _, .Name y _, .Name z _], [a, b, d], .tup ees =>
    decide (N[i]? = some x) && decide (N[j]? = some y) && decide (N[l]? = some z) && decide (i ≠ j) && decide (i ≠ l) && decide (j ≠ l) && decide (sc.names.lookup x = some .local) && decide (sc.names.lookup y = some .local) && decide (sc.names.lookup z = some .local) && decide (names = [x, y, z]) && chkEs T N ees sc fb [a, b, d]
  | _, _, _, _ => false
def chkAsg (T : Tab) (N : List Str) (sc : Scope) (fb : Str → Bool) (t : Lv) (e : E) (tg v : Expr) : Bool := match t, tg with
  | .name i, .Name y py => decide (N[i]? = some y) && stoC sc fb y && chkE T N e sc fb v && (noComp v || sameLine sc y py v || setC sc y py e v)
  | .tup ts, .Tuple es k p => match v with
    | .Tuple vs _ _ => match swF sc es vs with
      | some none => chkL T N sc fb (.tup ts) (.Tuple es k p) && chkE T N e sc fb v
      | some (some names) => chkPar T N sc fb ts es vs names e
      | none => false
    | v => chkL T N sc fb (.tup ts) (.Tuple es k p) && chkE T N e sc fb v
  | .sub a b, .Subscript x y p => chkL T N sc fb (.sub a b) (.Subscript x y p) && chkE T N e sc fb v
  | _, _ => false
mutual
def chkS (T : Tab) (N : List Str) (sc : Scope) (fb : Str → Bool) : S → Stmt → Bool
  | .exp e, st => match st with
    | .Expr p _ => noComp p && chkE T N e sc fb p
    | _ => false
  | .asg t e, st => match st with
    | .Assign [tg] v _ => chkAsg T N sc fb t e tg v
    | _ => false
  | .aug i op e, st => match st with
    | .AugAssign (.Name x _) o p _ => decide (o = pyOp op) && decide (N[i]? = some x) && stoC sc fb x && chkE T N e sc fb p
    | _ => false
  | .augs _ _ _ _, _ => false
  | .iff c a b, st => match st with
    | .If p sa sb _ => chkE T N c sc fb p && chkSs T N sc fb a sa && chkSs T N sc fb b sb
    | _ => false
  | .whl c b, st => match st with
    | .While p sb [] _ => chkE T N c sc fb p && chkSs T N sc fb b sb
    | _ => false
  | .for_ tg it b, st => match st with
    | .For t p sb [] _ => plain p && chkI T N it sc fb t p && chkG N sc fb tg t && chkSs T N sc fb b sb
    | _ => false
  | .ret e, st => match st with
    | .Return (some p) _ => chkE T N e sc fb p
    | _ => false
  | .retn, st => match st with
    | .Return none _ => true
    | _ => false
  | .raise c, st => match st with
    | .Raise (some (.Call (.Name x _) [] [] _)) none _ => decide (T.xname[c]? = some x) && glC sc x && goodName x
    | _ => false
  | .tr b hs, st => match st with
    | .Try body l [] [] _ => !l.isEmpty && chkH T sc hs l && chkSs T N sc fb b body
    | _ => false
  | .pass, st => match st with
    | .Pass _ => true
    | _ => false
  | .cont, st => match st with
    | .Continue _ => true
    | _ => false
  | .brk, st => match st with
    | .Break _ => true
    | _ => false
def chkSs (T : Tab) (N : List Str) (sc : Scope) (fb : Str → Bool) : Ss → List Stmt → Bool
  | .nil, sts => sts.isEmpty
  | .unk, _ => true
  | .cons s ss, sts => match sts with
    | st :: sts => chkS T N sc fb s st && chkSs T N sc fb ss sts
    | [] => false
end
theorem isTupE_of {v : Expr} (h : ∀ (a : List Expr) (b : Nat) (c : Pos), v = .Tuple a b c → False) : isTupE v = false := by
  cases v <;> first | rfl | exact (h _ _ _ rfl).elim
section
variable {T : Tab} {G : Ge} {xa : Nat → Addr} {cal : Cal} {k : Nat} {N : List Str} {sc : Scope} {fb : Str → Bool} {W : WX} {X : Cx} {F : Addr → Prop} {ι : List Addr} {H : Hp} {h : Hpp} {ρ : List (Option D)} {σ : L2.St} {Q : VK} {D : Ends}
theorem snd_assign (c : CtxS T G xa cal k N sc fb W X) {t : Lv} {e : E} {tg v : Expr} {pos : Pos} (ok : chkAsg T N sc fb t e tg v = true) : PS X (.Assign [tg] v pos) (rSt G xa cal (.asg t e) W) := by
  unfold chkAsg at ok
  split at ok
  · rename_i i y py
    simp only [Bool.and_eq_true, Bool.or_eq_true] at ok
    obtain ⟨⟨⟨o1, o2⟩, o3⟩, o4⟩ := ok
    have he := (sndE e sc fb v o3 W X c.c).1
    have hl : chkL T N sc fb (.name i) (.Name y py) = true := by
      simp only [chkL, vName, Bool.and_eq_true]
      exact ⟨o1, o2⟩
    have hg := snd_lv c.c (.name i) (.Name y py) hl
    rcases o4 with (o4 | o4) | o4
    · exact snd_asg rfl he hg (swaps_no o4 _ _ _) (stores_noT (fun _ _ _ z => by cases z) (fun _ _ z => by cases z) _)
    · unfold sameLine at o4
      split at o4
      · rename_i hy
        split at o4
        · exact snd_asg rfl he hg (sw_cell (by rw [c.c.sc]; exact hy)) (stores_noT (fun _ _ _ z => by cases z) (fun _ _ z => by cases z) _)
        · cases o4
      · cases o4
    · unfold setC at o4
      split at o4
      · rename_i th elt tg it cs own ee gs scope p
        simp only [Bool.and_eq_true, Bool.not_eq_true'] at o4
        obtain ⟨⟨q1, q2⟩, q3⟩ := o4
        have q1 := of_decide_eq_true q1
        rw [chkE] at o3
        split at o3
        · rename_i q eq
          obtain ⟨⟨p', ep⟩, pl, hl⟩ := vComp_eq eq
          cases ep
          simp only [Bool.and_eq_true] at o3
          obtain ⟨⟨⟨⟨⟨r1, r2⟩, r3⟩, r4⟩, r5⟩, r6⟩ := o3
          refine snd_asgC (snd_setComp (th := th) c.c pl r1 r2 (sndI it sc fb q.tg q.it r3 W X c.c)
            (fun X' c' => snd_tg c' tg q.tg r4)
            (fun X' c' => (sndEs cs (relS q.scope sc) (fbOf q.scope) q.ifs r5 _ X' c').2 hl)
            (fun X' c' => (sndE elt (relS q.scope sc) (fbOf q.scope) q.elt r6 _ X' c').1) (of_decide_eq_true o1) q1 ?_)
          exact sw_true (by rw [c.c.sc]; exact c.kind) (by rw [c.c.sc]; exact q1) q2 q3
        · cases o3
      · cases o4
  · rename_i ts es kk p
    split at ok
    · rename_i vs k2 p2
      split at ok
      · rename_i sw
        simp only [Bool.and_eq_true] at ok
        exact snd_asg rfl (sndE e sc fb _ ok.2 W X c.c).1 (snd_lv c.c _ _ ok.1) swaps_tup (swF_ok c.c.sc c.kind sw)
      · rename_i names sw
        unfold chkPar at ok
        split at ok
        · simp only [Bool.and_eq_true] at ok
          obtain ⟨⟨⟨⟨⟨⟨o1, o2⟩, o3⟩, o4⟩, o5⟩, o6⟩, o7⟩ := ok
          rw [of_decide_eq_true o6] at sw
          exact snd_par2 c (of_decide_eq_true o1) (of_decide_eq_true o2) (of_decide_eq_true o3) (of_decide_eq_true o4) (of_decide_eq_true o5) sw (sndEs _ sc fb _ o7 W X c.c).1
        · simp only [Bool.and_eq_true] at ok
          obtain ⟨⟨⟨⟨⟨⟨⟨⟨⟨⟨o1, o2⟩, o3⟩, n1⟩, n2⟩, n3⟩, o4⟩, o5⟩, o8⟩, o6⟩, o7⟩ := ok
          rw [of_decide_eq_true o6] at sw
          exact snd_par3 c (of_decide_eq_true o1) (of_decide_eq_true o2) (of_decide_eq_true o3) (of_decide_eq_true n1) (of_decide_eq_true n2) (of_decide_eq_true n3) (of_decide_eq_true o4) (of_decide_eq_true o5) (of_decide_eq_true o8) sw (sndEs _ sc fb _ o7 W X c.c).1
        · cases ok
      · cases ok
    · rename_i v nt
      simp only [Bool.and_eq_true] at ok
      refine snd_asg rfl (sndE e sc fb _ ok.2 W X c.c).1 (snd_lv c.c _ _ ok.1) swaps_tup (stores_no (isTupE_of nt) _)
  · simp only [Bool.and_eq_true] at ok
    exact snd_asg rfl (sndE e sc fb _ ok.2 W X c.c).1 (snd_lv c.c _ _ ok.1) swaps_sub (stores_noT (fun _ _ _ z => by cases z) (fun _ _ z => by cases z) _)
  · cases ok
mutual
theorem sndS : ∀ (s : S) (st : Stmt), chkS T N sc fb s st = true → ∀ (W : WX) (X : Cx), CtxS T G xa cal k N sc fb W X → PS X st (rSt G xa cal s W)
  | .exp e, st, ok, W, X, c => by
    simp only [chkS] at ok
    split at ok
    · simp only [Bool.and_eq_true] at ok
      exact snd_exp (sndE e sc fb _ ok.2 W X c.c).1 (swaps_no ok.1 _ _ _)
    · cases ok
  | .asg t e, st, ok, W, X, c => by
    simp only [chkS] at ok
    split at ok
    · exact snd_assign c ok
    · cases ok
  | .aug i op e, st, ok, W, X, c => by
    simp only [chkS] at ok
    split at ok
    · simp only [Bool.and_eq_true] at ok
      obtain ⟨⟨⟨o1, o2⟩, o3⟩, o4⟩ := ok
      cases (of_decide_eq_true o1)
      exact snd_aug c (of_decide_eq_true o2) o3 (sndE e sc fb _ o4 W X c.c).1
    · cases ok
  | .augs _ _ _ _, st, ok, W, X, c => by simp [chkS] at ok
  | .iff cc a b, st, ok, W, X, c => by
    simp only [chkS] at ok
    split at ok
    · simp only [Bool.and_eq_true] at ok
      exact snd_iff (sndE cc sc fb _ ok.1.1 W X c.c).2 (sndSs a _ ok.1.2 W X c) (sndSs b _ ok.2 W X c)
    · cases ok
  | .whl cc b, st, ok, W, X, c => by
    simp only [chkS] at ok
    split at ok
    · simp only [Bool.and_eq_true] at ok
      exact snd_whl c (sndE cc sc fb _ ok.1 W X c.c).2 (sndSs b _ ok.2 W X c)
    · cases ok
  | .for_ tg it b, st, ok, W, X, c => by
    simp only [chkS] at ok
    split at ok
    · simp only [Bool.and_eq_true] at ok
      exact snd_for c ok.1.1.1 (sndI it sc fb _ _ ok.1.1.2 W X c.c) (snd_tg c.c tg _ ok.1.2) (sndSs b _ ok.2 W X c)
    · cases ok
  | .ret e, st, ok, W, X, c => by
    simp only [chkS] at ok
    split at ok
    · exact snd_ret (sndE e sc fb _ ok W X c.c).1
    · cases ok
  | .retn, st, ok, W, X, c => by
    simp only [chkS] at ok
    split at ok
    · exact snd_retn
    · cases ok
  | .raise e, st, ok, W, X, c => by
    simp only [chkS] at ok
    split at ok
    · simp only [Bool.and_eq_true] at ok
      exact snd_raise c.c (of_decide_eq_true ok.1.1) ok.1.2 ok.2
    · cases ok
  | .tr b hs, st, ok, W, X, c => by
    simp only [chkS] at ok
    split at ok
    · simp only [Bool.and_eq_true, Bool.not_eq_true'] at ok
      exact snd_tr c ok.1.1 ok.1.2 fun W' X' c' => sndSs b _ ok.2 W' X' c'
    · cases ok
  | .pass, st, ok, W, X, c => by
    simp only [chkS] at ok
    split at ok
    · exact snd_pass
    · cases ok
  | .cont, st, ok, W, X, c => by
    simp only [chkS] at ok
    split at ok
    · exact snd_cont
    · cases ok
  | .brk, st, ok, W, X, c => by
    simp only [chkS] at ok
    split at ok
    · exact snd_brk
    · cases ok
theorem sndSs : ∀ (ss : Ss) (sts : List Stmt), chkSs T N sc fb ss sts = true → ∀ (W : WX) (X : Cx), CtxS T G xa cal k N sc fb W X → PSs X sts (rSs G xa cal ss W)
  | .nil, sts, ok, W, X, c => by
    simp only [chkSs] at ok
    cases sts with
    | nil => exact snd_snil
    | cons _ _ => cases ok
  | .unk, sts, ok, W, X, c => snd_sunk
  | .cons s ss, sts, ok, W, X, c => by
    simp only [chkSs] at ok
    split at ok
    · simp only [Bool.and_eq_true] at ok
      exact snd_scons (sndS s _ ok.1 W X c) (sndSs ss _ ok.2 W X c)
    · cases ok
end
end
end PL
end
section
set_option Elab.async false
set_option linter.all false
set_option maxRecDepth 100000
set_option maxHeartbeats 1000000
/-! PLS19: defs. -/
namespace PL
open PySem PySem.Spec PyProof.Rows L2
/-! ### values across a call -/
section
variable {G : Ge} {F F' : Addr → Prop} {ι ι' : List Addr} {H H' : Hp} {h h' : Hpp}
mutual
theorem VR.enter (f : ∀ a, F' a → F a ∨ a ∈ ι) : ∀ {d : D} {v : V}, pureD d = true → VR G F ι H d v → VR G F' [] H d v
  | .non, _, _, r => r
  | .bl _, _, _, r => r
  | .int _, _, _, r => r
  | .str _, _, _, r => r
  | .tup xs, v, p, r => by
    obtain ⟨a, us, e, q, t⟩ := r
    exact ⟨a, us, e, q, VRs.enter f (by simpa [pureD] using p) t⟩
  | .fl xs, v, p, r => by
    obtain ⟨a, us, e, ⟨q, n, nf⟩, t⟩ := r
    refine ⟨a, us, e, ⟨q, by simp, fun z => ?_⟩, VRs.enter f (by simpa [pureD] using p) t⟩
    rcases f a z with z | z
    · exact nf z
    · exact n z
  | .ref n, v, p, r => by simp [pureD] at p
  | .fn _, _, _, r => r
  | .sc is, v, p, r => by
    obtain ⟨a, e, q⟩ := r
    refine ⟨a, e, ?_⟩
    rcases q with q | ⟨q, n, nf⟩
    · exact .inl q
    · refine .inr ⟨q, by simp, fun z => ?_⟩
      rcases f a z with z | z
      · exact nf z
      · exact n z
theorem VRs.enter (f : ∀ a, F' a → F a ∨ a ∈ ι) : ∀ {d : List D} {v : List V}, pureL d = true → VRs G F ι H d v → VRs G F' [] H d v
  | [], _, _, r => r
  | x :: xs, us, p, r => by
    obtain ⟨v, t, e, r1, r2⟩ := r
    rw [pureL, Bool.and_eq_true] at p
    exact ⟨v, t, e, VR.enter f p.1 r1, VRs.enter f p.2 r2⟩
end
/-- with the rows of the cells as values -/
theorem VR.enterR {d : D} {v : V} (r : Rel G F ι H h) (p : pureD (res d h) = true) (rv : VR G F ι H d v) : VR G F [] H (res d h) v := by
  cases d with
  | ref n =>
    obtain ⟨a, rfl, i⟩ := rv
    unfold res at p ⊢
    simp only at p ⊢
    split at p
    · rename_i xs hn
      obtain ⟨vs, t, w⟩ := r.cells n a _ i hn
      exact ⟨a, vs, rfl, ⟨t, by simp, r.own a (List.mem_of_getElem? i)⟩, VRs.enter (fun _ z => .inl z) (by simpa [pureD] using p) w⟩
    · simp [pureD] at p
  | _ => exact VR.enter (fun _ z => .inl z) p rv
theorem VRs.enterR : ∀ {ds : List D} {vs : List V}, Rel G F ι H h → pureL (ds.map fun d => res d h) = true → VRs G F ι H ds vs → VRs G F [] H (ds.map fun d => res d h) vs
  | [], _, r, p, rv => rv
  | d :: ds, _, r, p, rv => by
    obtain ⟨v, t, e, r1, r2⟩ := rv
    rw [List.map_cons, pureL, Bool.and_eq_true] at p
    exact ⟨v, t, e, VR.enterR r p.1 r1, VRs.enterR r p.2 r2⟩
theorem res_pure {d : D} (p : pureD d = true) : res d h = d := by
  cases d <;> first | rfl | simp [pureD] at p
theorem resL_pure : ∀ {ds : List D}, pureL ds = true → (ds.map fun d => res d h) = ds
  | [], _ => rfl
  | d :: ds, p => by
    rw [pureL, Bool.and_eq_true] at p
    rw [List.map_cons, res_pure p.1, resL_pure p.2]
mutual
theorem VR.leaveP (f : ∀ a, F a ∨ a ∈ ι → F' a) : ∀ {d : D} {v : V}, pureD d = true → VR G F' ι' H d v → VR G F ι H d v
  | .non, _, _, r => r
  | .bl _, _, _, r => r
  | .int _, _, _, r => r
  | .str _, _, _, r => r
  | .tup xs, v, p, r => by
    obtain ⟨a, us, e, q, t⟩ := r
    exact ⟨a, us, e, q, VRs.leaveP f (by simpa [pureD] using p) t⟩
  | .fl xs, v, p, r => by
    obtain ⟨a, us, e, ⟨q, n, nf⟩, t⟩ := r
    exact ⟨a, us, e, ⟨q, fun z => nf (f a (.inr z)), fun z => nf (f a (.inl z))⟩, VRs.leaveP f (by simpa [pureD] using p) t⟩
  | .ref n, v, p, r => by simp [pureD] at p
  | .fn _, _, _, r => r
  | .sc is, v, p, r => by
    obtain ⟨a, e, q⟩ := r
    refine ⟨a, e, ?_⟩
    rcases q with q | ⟨q, n, nf⟩
    · exact .inl q
    · exact .inr ⟨q, fun z => nf (f a (.inr z)), fun z => nf (f a (.inl z))⟩
theorem VRs.leaveP (f : ∀ a, F a ∨ a ∈ ι → F' a) : ∀ {d : List D} {v : List V}, pureL d = true → VRs G F' ι' H d v → VRs G F ι H d v
  | [], _, _, r => r
  | x :: xs, us, p, r => by
    obtain ⟨v, t, e, r1, r2⟩ := r
    rw [pureL, Bool.and_eq_true] at p
    exact ⟨v, t, e, VR.leaveP f p.1 r1, VRs.leaveP f p.2 r2⟩
end
/-- the result of a pure def: its new lists become values -/
theorem frz_pureF (r : Rel G F' ι' H h) (f : ∀ a, F a ∨ a ∈ ι → F' a) (hn : ∀ a ∈ ι', a ∉ ι ∧ ¬ F a) : ∀ (n : Nat),
    (∀ (d : D) (v : V), pureD (frz 0 h n d) = true → VR G F' ι' H d v → VR G F ι H (frz 0 h n d) v) ∧ (∀ (ds : List D) (vs : List V), pureL (frzL 0 h n ds) = true → VRs G F' ι' H ds vs → VRs G F ι H (frzL 0 h n ds) vs) := by
  intro n
  induction n with
  | zero =>
    have k1 : ∀ (d : D) (v : V), pureD (frz 0 h 0 d) = true → VR G F' ι' H d v → VR G F ι H (frz 0 h 0 d) v := fun d v p rv => by
      rw [frz] at p ⊢
      exact VR.leaveP f p rv
    refine ⟨k1, fun ds => ?_⟩
    induction ds with
    | nil => intro vs _ rv; rw [frzL]; exact rv
    | cons x xs ih =>
      intro vs p rv
      obtain ⟨v, t, e, r1, r2⟩ := rv
      rw [frzL, pureL, Bool.and_eq_true] at p
      rw [frzL]
      exact ⟨v, t, e, k1 x v p.1 r1, ih t p.2 r2⟩
  | succ n ihn =>
    have k1 : ∀ (d : D) (v : V), pureD (frz 0 h (n + 1) d) = true → VR G F' ι' H d v → VR G F ι H (frz 0 h (n + 1) d) v := fun d v p rv => by
      cases d with
      | tup xs =>
        rw [frz] at p ⊢
        obtain ⟨a, us, e, q, t⟩ := rv
        exact ⟨a, us, e, q, ihn.2 xs us (by simpa [pureD] using p) t⟩
      | fl xs =>
        rw [frz] at p ⊢
        obtain ⟨a, us, e, ⟨q, n', nf⟩, t⟩ := rv
        exact ⟨a, us, e, ⟨q, fun z => nf (f a (.inr z)), fun z => nf (f a (.inl z))⟩, ihn.2 xs us (by simpa [pureD] using p) t⟩
      | ref j =>
        rw [frz] at p ⊢
        rw [if_neg (Nat.not_lt_zero j)] at p ⊢
        obtain ⟨a, rfl, i⟩ := rv
        split at p
        · rename_i xs hj
          obtain ⟨vs, t, w⟩ := r.cells j a _ i hj
          have ha := hn a (List.mem_of_getElem? i)
          exact ⟨a, vs, rfl, ⟨t, ha.1, ha.2⟩, ihn.2 xs vs (by simpa [pureD] using p) w⟩
        · simp [pureD] at p
      | non => simp only [frz]; exact rv
      | bl _ => simp only [frz]; exact rv
      | int _ => simp only [frz]; exact rv
      | str _ => simp only [frz]; exact rv
      | fn _ => simp only [frz]; exact rv
      | sc _ => simp only [frz]; exact VR.leaveP f rfl rv
    refine ⟨k1, fun ds => ?_⟩
    induction ds with
    | nil => intro vs _ rv; rw [frzL]; exact rv
    | cons x xs ih =>
      intro vs p rv
      obtain ⟨v, t, e, r1, r2⟩ := rv
      rw [frzL, pureL, Bool.and_eq_true] at p
      rw [frzL]
      exact ⟨v, t, e, k1 x v p.1 r1, ih t p.2 r2⟩
/-- .. a result with no list -/
theorem frz_noL (h : Hpp) : ∀ (n : Nat),
    (∀ (d : D) (v : V), noL (frz 0 h n d) = true → VR G F' ι' H d v → VR G F ι H (frz 0 h n d) v) ∧ (∀ (ds : List D) (vs : List V), noLs (frzL 0 h n ds) = true → VRs G F' ι' H ds vs → VRs G F ι H (frzL 0 h n ds) vs) := by
  have base : (∀ (d : D) (v : V), noL d = true → VR G F' ι' H d v → VR G F ι H d v) := by
    intro d
    refine D.rec (motive_1 := fun d => ∀ v, noL d = true → VR G F' ι' H d v → VR G F ι H d v) (motive_2 := fun ds => ∀ vs, noLs ds = true → VRs G F' ι' H ds vs → VRs G F ι H ds vs) ?_ ?_ ?_ ?_ ?_ ?_ ?_ ?_ ?_ ?_ ?_ d
    · exact fun v _ r => r
    · exact fun _ v _ r => r
    · exact fun _ v _ r => r
    · exact fun _ v _ r => r
    · intro xs ih v p r
      obtain ⟨a, us, e, q, t⟩ := r
      exact ⟨a, us, e, q, ih us (by simpa [noL] using p) t⟩
    · intro xs ih v p r; simp [noL] at p
    · intro n v p r; simp [noL] at p
    · exact fun _ v _ r => r
    · intro is v p r; simp [noL] at p
    · exact fun vs _ r => r
    · intro x xs i1 i2 vs p r
      obtain ⟨v, t, e, r1, r2⟩ := r
      rw [noLs, Bool.and_eq_true] at p
      exact ⟨v, t, e, i1 v p.1 r1, i2 t p.2 r2⟩
  intro n
  induction n with
  | zero =>
    have k1 : ∀ (d : D) (v : V), noL (frz 0 h 0 d) = true → VR G F' ι' H d v → VR G F ι H (frz 0 h 0 d) v := fun d v p rv => by
      rw [frz] at p ⊢
      exact base d v p rv
    refine ⟨k1, fun ds => ?_⟩
    induction ds with
    | nil => intro vs _ rv; rw [frzL]; exact rv
    | cons x xs ih =>
      intro vs p rv
      obtain ⟨v, t, e, r1, r2⟩ := rv
      rw [frzL, noLs, Bool.and_eq_true] at p
      rw [frzL]
      exact ⟨v, t, e, k1 x v p.1 r1, ih t p.2 r2⟩
  | succ n ihn =>
    have k1 : ∀ (d : D) (v : V), noL (frz 0 h (n + 1) d) = true → VR G F' ι' H d v → VR G F ι H (frz 0 h (n + 1) d) v := fun d v p rv => by
      cases d with
      | tup xs =>
        rw [frz] at p ⊢
        obtain ⟨a, us, e, q, t⟩ := rv
        exact ⟨a, us, e, q, ihn.2 xs us (by simpa [noL] using p) t⟩
      | fl xs => rw [frz] at p; simp [noL] at p
      | ref j =>
        rw [frz, if_neg (Nat.not_lt_zero j)] at p
        split at p <;> simp [noL] at p
      | non => simp only [frz]; exact rv
      | bl _ => simp only [frz]; exact rv
      | int _ => simp only [frz]; exact rv
      | str _ => simp only [frz]; exact rv
      | fn _ => simp only [frz]; exact rv
      | sc _ => simp [frz, noL] at p
    refine ⟨k1, fun ds => ?_⟩
    induction ds with
    | nil => intro vs _ rv; rw [frzL]; exact rv
    | cons x xs ih =>
      intro vs p rv
      obtain ⟨v, t, e, r1, r2⟩ := rv
      rw [frzL, noLs, Bool.and_eq_true] at p
      rw [frzL]
      exact ⟨v, t, e, k1 x v p.1 r1, ih t p.2 r2⟩
/-- the caller's state behind a def that has left the cells as they are -/
theorem Rel.back0 (r : Rel G F ι H h) (g : Grow H [] H' ι') : Rel G F ι H' h ∧ Grow H ι H' ι := by
  have g' : Grow H ι H' ι := ⟨fun a o e _ => g.keep a o e (by simp), ⟨[], by simp⟩, fun _ z => .inl z⟩
  refine ⟨⟨r.len, r.nd, fun j a c e1 e2 => ?_, r.own, fun a z => ?_⟩, g'⟩
  · obtain ⟨o, q, _⟩ := r.cellsOk a (List.mem_of_getElem? e1)
    exact CR.mono g' r.cellsOk (fun _ z => .inl z) (by rw [g.keep a o q (by simp), q]) (r.cells j a c e1 e2)
  · obtain ⟨o, q⟩ := r.frn a z
    exact ⟨o, g.keep a o q (by simp)⟩
end
end PL
end
section
set_option Elab.async false
set_option linter.all false
set_option maxRecDepth 100000
set_option maxHeartbeats 1000000
/-! PLS20: every def keeps its promise. -/
namespace PL
open PySem PySem.Spec PyProof.Rows L2
/-- a def's written form -/
structure FI where
  name : Str
  qual : Str
  params : Arguments
  body : List Stmt
  scope : Scope
  N : List Str
def pNames : Arguments → Option (List Str)
  | ⟨[], args, none, [], [], none, []⟩ => some (args.map (·.arg))
  | _ => none
def nodupB : List Str → Bool
  | [] => true
  | x :: r => !(r.any fun y => decide (y = x)) && nodupB r
theorem nodupB_ok : ∀ {l : List Str}, nodupB l = true → l.Nodup
  | [], _ => .nil
  | x :: r, h => by
    rw [nodupB, Bool.and_eq_true, Bool.not_eq_true'] at h
    refine List.nodup_cons.mpr ⟨fun hx => ?_, nodupB_ok h.2⟩
    have h1 := h.1
    rw [List.any_eq_false] at h1
    exact h1 x hx (decide_eq_true rfl)
def FI.ps (i : FI) (fn : Fn) : List Str := i.N.take fn.np
def scC (N P : List Str) (sc : Scope) : Bool :=
  decide (sc.kind = .function) && !sc.isCoroutine && !sc.isGenerator && nodupB N && (P.all fun x => decide (sc.names.lookup x = some .local) || decide (sc.names.lookup x = some .cell)) && (sc.names.all fun y => decide (y.2 ≠ .free))
theorem scC_ok {N : List Str} {np : Nat} {sc : Scope} (h : scC N (N.take np) sc = true) (hl : np ≤ N.length) : FnScope N (N.take np) sc := by
  unfold scC at h
  simp only [Bool.and_eq_true, Bool.not_eq_true'] at h
  obtain ⟨⟨⟨⟨⟨h1, h2⟩, h3⟩, h4⟩, h5⟩, h6⟩ := h
  refine ⟨of_decide_eq_true h1, h2, h3, nodupB_ok h4, by rw [List.length_take, Nat.min_eq_left hl], fun x hx => ?_, fun y hy => ?_⟩
  · have := List.all_eq_true.mp h5 x hx
    rw [Bool.or_eq_true] at this
    rcases this with q | q
    · exact .inl (of_decide_eq_true q)
    · exact .inr (of_decide_eq_true q)
  · exact of_decide_eq_true (List.all_eq_true.mp h6 y hy)
/-- the def at f is this term -/
def fiC (T : Tab) (fn : Fn) (i : FI) : Bool :=
  decide (fn.np ≤ 6) && decide (fn.np ≤ i.N.length) && decide (fn.nl = i.N.length) && decide (fn.mode ≠ 1) && decide (pNames i.params = some (i.N.take fn.np)) && scC i.N (i.N.take fn.np) i.scope && chkSs T i.N i.scope (fun _ => true) fn.body i.body
def FI.bd (i : FI) (np : Nat) : Prop := ∀ (kV doc pm : Value) (an : Option Addr) (cdv ct : Value) (us : List Value), us.length = (i.N.take np).length → bindArgs (PySem.W.fnOf i.name i.qual i.params i.body i.scope .none kV doc pm an cdv ct) ⟨us, []⟩ = pure ((i.N.take np).zip us)
/-- all that is known of the program -/
structure PF (T : Tab) (fns : List Fn) (fis : List FI) (G : Ge) (xa : Nat → Addr) (mg : Str → Option Value) : Prop where
  nf : G.nf = T.fname.length
  nx : G.nx = T.xname.length
  lf : fns.length = T.fname.length
  li : fis.length = T.fname.length
  fnm : ∀ (f : Nat) (x : Str), T.fname[f]? = some x → mg x = some (.ref (G.fa f))
  fun_ : ∀ (f : Nat) (i : FI), fis[f]? = some i → ∃ fd, FunD G.K i.name i.qual i.params i.body i.scope [] [] (G.fa f) fd
  chk : ∀ (f : Nat) (i : FI) (fn : Fn), fis[f]? = some i → fns[f]? = some fn → fiC T fn i = true
  bd : ∀ (f : Nat) (i : FI) (fn : Fn), fis[f]? = some i → fns[f]? = some fn → i.bd fn.np
  exc : ∀ (e : Nat) (x : Str), T.xname[e]? = some x → mg x = some (.ref (xa e)) ∧ PySem.W.keepIn G.K (.ref (xa e)) = true ∧ (PySem.W.subIn G.K (.ref (xa e)) (.type "BaseException") = some true ∧ PySem.W.typeIn G.K (.ref (xa e)) = some (.type "type")) ∧ ∃ bmB B newId initId, ExcBaseFacts B newId initId bmB ∧ PySem.W.excIn G.K (xa e) bmB newId = true
  exm : ∀ e j, e < G.nx → j < G.nx → PySem.W.exmOne G.K (.ref (xa e)) (.ref (xa j)) = some (decide (e = j))
  free : ∀ x ∈ bnames, mg x = none
  cst : ∀ (x : Str) (d : D), T.cst.lookup x = some d → ∃ v u, mg x = some u ∧ RelV v u ∧ KC G.K d v
section
variable {T : Tab} {fns : List Fn} {fis : List FI} {G : Ge} {xa : Nat → Addr} {mg : Str → Option Value} {P : Program} {w : World} {base : Heap}
theorem env_start {F : Addr → Prop} {ι : List Addr} {H : Hp} {ds : List D} {vs : List V} {fn : Fn} {N : List Str} (r : VRs G F ι H ds vs) (h1 : ds.length = fn.np) (h2 : fn.nl = N.length) (h3 : fn.np ≤ N.length) : EnvR G F ι H (env0 fn ds) (L2.start N vs) := by
  have hl := VRs.length r
  refine ⟨by simp [env0, L2.start, hl, h1, h2], fun i d q => ?_⟩
  unfold env0 at q
  unfold L2.start
  by_cases hi : i < ds.length
  · rw [List.getElem?_append_left (by simpa using hi), List.getElem?_map] at q
    cases e : ds[i]? with
    | none => rw [e] at q; cases q
    | some d' =>
      rw [e] at q; cases q
      obtain ⟨v, e2, rv⟩ := r.get e
      exact ⟨v, by rw [List.getElem?_append_left (by simp [hl]; exact hi), List.getElem?_map, e2]; rfl, rv⟩
  · rw [List.getElem?_append_right (by simpa using hi)] at q
    have := List.mem_of_getElem? q
    rw [List.mem_replicate] at this
    cases this.2
theorem prog_ok (pf : PF T fns fis G xa mg) : ∀ (k f : Nat) (i : FI) (fn : Fn), fis[f]? = some i → fns[f]? = some fn → ∀ fd, FunD G.K i.name i.qual i.params i.body i.scope [] [] (G.fa f) fd →
    FnOk P w G.K mg base (L2.CX P w) (k + 1) (G.fa f) fd (i.N.take fn.np) (spF G xa (callF fns k) f) ∧ Binds G.K fd (i.N.take fn.np) [] := by
  intro k
  induction k with
  | zero =>
    intro f i fn ei ef fd F
    have ck := pf.chk f i fn ei ef
    unfold fiC at ck
    simp only [Bool.and_eq_true] at ck
    obtain ⟨⟨⟨⟨⟨⟨c1, c2⟩, c3⟩, c4⟩, c5⟩, c6⟩, c7⟩ := ck
    have c2 := of_decide_eq_true c2
    refine ⟨F.ok (scC_ok c6 c2) (fun vs H Q E q => ?_) fun cdv A outer s H vs Q E hr q => ?_, F.bindsN (pf.bd f i fn ei ef)⟩
    · obtain ⟨F', ι, h, ds, r, rs, Pq⟩ := q; exact Pq.elim
    · obtain ⟨F', ι, h, ds, r, rs, Pq⟩ := q; exact Pq.elim
  | succ k ih =>
    intro f i fn ei ef fd F
    have ck := pf.chk f i fn ei ef
    unfold fiC at ck
    simp only [Bool.and_eq_true] at ck
    obtain ⟨⟨⟨⟨⟨⟨c1, c2⟩, c3⟩, c4⟩, c5⟩, c6⟩, c7⟩ := ck
    have c2 := of_decide_eq_true c2
    have c3 := of_decide_eq_true c3
    have c4 := of_decide_eq_true c4
    have hps : (i.N.take fn.np).length = fn.np := by rw [List.length_take, Nat.min_eq_left c2]
    have run : ∀ {ds : List D} {h : Hpp} {O : D → Hpp → Prop} {E : Nat → Hpp → Prop}, Post (callF fns (k + 1) f ds h) O E → Post (runFn (callF fns k) fn ds h) O E := fun {ds h O E} q => by
      simp only [callF, ef] at q
      exact q
    have lenD : ∀ {ds : List D} {h : Hpp} {O : D → Hpp → Prop} {E : Nat → Hpp → Prop}, Post (runFn (callF fns k) fn ds h) O E → ds.length = fn.np := fun {ds h O E} q => by
      unfold runFn at q
      split at q
      · assumption
      · exact q.elim
    refine ⟨F.ok (scC_ok c6 c2) (fun vs H Q E q => ?_) fun cdv A outer s H vs Q E hr q => ?_, F.bindsN (pf.bd f i fn ei ef)⟩
    · obtain ⟨F', ι, h, ds, r, rs, Pq⟩ := q
      rw [hps, VRs.length rs]
      exact lenD (run Pq)
    · obtain ⟨F', ι, h, ds, r, rs, Pq⟩ := q
      have Pq := run Pq
      have hd := lenD Pq
      have cx : CtxS T G xa (callF fns k) (k + 1) i.N i.scope (fun _ => true) (fun cls d _ H => E cls d H) (cxOf (L2.CX P w) P w G.K mg base i.N i.qual i.scope (G.fa f) cdv A outer s H E) := {
        c := {
          hK := rfl
          hN := rfl
          nd := (scC_ok c6 c2).nd
          sc := rfl
          fn := rfl
          calm := rfl
          room := hr
          takes := takes_of rfl rfl rfl rfl
          fnm := pf.fnm
          fns := fun f' hf' => by
            have ei' := List.getElem?_eq_getElem (show f' < fis.length by rw [pf.li]; exact hf')
            have ef' := List.getElem?_eq_getElem (show f' < fns.length by rw [pf.lf]; exact hf')
            obtain ⟨fd', F'⟩ := pf.fun_ f' _ ei'
            obtain ⟨q1, q2⟩ := ih f' _ _ ei' ef' fd' F'
            exact ⟨F'.kp, fd', _, q1, q2⟩
          nf := pf.nf
          nx := pf.nx
          exc := fun e x ex => by
            obtain ⟨q1, q2, ⟨q3, q4⟩, q5⟩ := pf.exc e x ex
            exact ⟨q1, q2, raises_own q3 q4, q5⟩
          exm := pf.exm
          free := pf.free
          cst := pf.cst }
        own := passes_of rfl
        stk := rfl
        fr := rfl
        kind := (scC_ok c6 c2).kind }
      refine ⟨rSs G xa (callF fns k) fn.body (fun cls d _ H => E cls d H), sndSs fn.body i.body c7 _ _ cx, ?_⟩
      unfold runFn at Pq
      rw [if_pos hd] at Pq
      split at Pq
      · -- pure
        split at Pq
        · rename_i m0 pu
          by_cases pd : pureL ds = true
          · -- nothing in cells
            have pu2 : (ds.map fun d => res d h) = ds := resL_pure pd
            rw [pu2] at Pq
            have rel0 : Rel G (fun a => F' a ∨ a ∈ ι) [] H [] := ⟨rfl, .nil, fun n a c e _ => by simp at e, fun a ha => by simp at ha, fun a z => by
              rcases z with z | z
              · exact r.frn a z
              · obtain ⟨o, q, _⟩ := r.cellsOk a z; exact ⟨o, q⟩⟩
            have rs0 : VRs G (fun a => F' a ∨ a ∈ ι) [] H ds vs := VRs.enter (fun _ z => z) pd rs
            refine ⟨_, [], [], env0 fn ds, rel0, env_start rs0 hd c3 c2, ?_⟩
            have news : ∀ {H' : Hp} {ι' : List Addr}, Grow H [] H' ι' → ∀ a ∈ ι', a ∉ ι ∧ ¬ F' a := fun {H' ι'} g a ha => by
              rcases g.new a ha with z | z
              · simp at z
              · refine ⟨fun y => ?_, fun y => ?_⟩
                · obtain ⟨o, q, _⟩ := r.cellsOk a y; rw [z] at q; cases q
                · obtain ⟨o, q⟩ := r.frn a y; rw [z] at q; cases q
            cases eo : exs (callF fns k) fn.body (env0 fn ds) [] with
            | rt d h' =>
              rw [eo] at Pq
              unfold fin0 at Pq
              simp only [pd, Bool.true_and] at Pq
              split at Pq
              · rename_i hp
                rw [Bool.or_eq_true] at hp
                intro v H' ι' g r' rv
                obtain ⟨rb, gb⟩ := r.back0 g
                refine Pq v H' ι gb rb ?_
                rcases hp with hp | hp
                · exact (frz_pureF r' (fun a z => z) (news g) 9).1 d v hp rv
                · exact (frz_noL h' 9).1 d v hp rv
              · exact Pq.elim
            | nx ρ' h' =>
              rw [eo] at Pq
              intro σ' H' ι' g r' _
              obtain ⟨rb, gb⟩ := r.back0 g
              exact (show okp G F' ι H Q .non h from Pq) .non H' ι gb rb rfl
            | er c ρ' h' =>
              rw [eo] at Pq
              intro hc H' ι' g r' dx _
              obtain ⟨rb, gb⟩ := r.back0 g
              exact (show erk G F' xa ι H E c h from Pq) hc H' ι gb rb dx
            | bk _ _ => rw [eo] at Pq; exact Pq.elim
            | ct _ _ => rw [eo] at Pq; exact Pq.elim
            | no => rw [eo] at Pq; exact Pq.elim
          · -- rows of cells as values; the result has none
            have rel0 : Rel G F' [] H [] := ⟨rfl, .nil, fun n a c e _ => by simp at e, fun a ha => by simp at ha, r.frn⟩
            have rs0 : VRs G F' [] H (ds.map fun d => res d h) vs := VRs.enterR r pu rs
            refine ⟨_, [], [], env0 fn _, rel0, env_start rs0 (by rw [List.length_map]; exact hd) c3 c2, ?_⟩
            cases eo : exs (callF fns k) fn.body (env0 fn (ds.map fun d => res d h)) [] with
            | rt d h' =>
              rw [eo] at Pq
              unfold fin0 at Pq
              simp only [pd, Bool.false_and, Bool.false_or] at Pq
              split at Pq
              · rename_i hp
                intro v H' ι' g r' rv
                obtain ⟨rb, gb⟩ := r.back0 g
                exact Pq v H' ι gb rb ((frz_noL h' 9).1 d v (by simpa using hp) rv)
              · exact Pq.elim
            | nx ρ' h' =>
              rw [eo] at Pq
              intro σ' H' ι' g r' _
              obtain ⟨rb, gb⟩ := r.back0 g
              exact (show okp G F' ι H Q .non h from Pq) .non H' ι gb rb rfl
            | er c ρ' h' =>
              rw [eo] at Pq
              intro hc H' ι' g r' dx _
              obtain ⟨rb, gb⟩ := r.back0 g
              exact (show erk G F' xa ι H E c h from Pq) hc H' ι gb rb dx
            | bk _ _ => rw [eo] at Pq; exact Pq.elim
            | ct _ _ => rw [eo] at Pq; exact Pq.elim
            | no => rw [eo] at Pq; exact Pq.elim
        · exact Pq.elim
      · rename_i m1; exact absurd m1 c4
      · -- open
        refine ⟨F', ι, h, env0 fn ds, r, env_start rs hd c3 c2, ?_⟩
        cases eo : exs (callF fns k) fn.body (env0 fn ds) h with
        | rt d h' => rw [eo] at Pq; exact Pq
        | nx ρ' h' =>
          rw [eo] at Pq
          intro σ' H' ι' g r' _
          exact (show okp G F' ι H Q .non h' from Pq) .non H' ι' g r' rfl
        | er c ρ' h' =>
          rw [eo] at Pq
          intro hc H' ι' g r' dx _
          exact (show erk G F' xa ι H E c h' from Pq) hc H' ι' g r' dx
        | bk _ _ => rw [eo] at Pq; exact Pq.elim
        | ct _ _ => rw [eo] at Pq; exact Pq.elim
        | no => rw [eo] at Pq; exact Pq.elim
end
end PL
end
section
set_option Elab.async false
set_option linter.all false
set_option maxRecDepth 100000
set_option maxHeartbeats 1000000
/-! PLE: the head's facts; the end of a law. -/
namespace PL
open PySem PySem.Spec PyProof.Rows L2
def dvOf : D → Option He.Dv
  | .non => some .non
  | .bl b => some (.bl b)
  | .int i => some (.int i)
  | .str s => some (.str s)
  | _ => none
def dvsOf : List D → Option (List He.Dv)
  | [] => some []
  | d :: r => match dvOf d, dvsOf r with
    | some x, some xs => some (x :: xs)
    | _, _ => none
def cstB (K : PySem.W.Frag) (x : Str) : D → Bool
  | .int i => (He.Fa.int x i).ok K
  | .str s => (He.Fa.str x s).ok K
  | .tup ds => (He.Fa.glo x).ok K && (match dvsOf ds with
    | some vs => He.tupB K x vs
    | none => false)
  | _ => false
theorem dvs_kc {K : PySem.W.Frag} : ∀ {ds : List D} {vs : List He.Dv}, dvsOf ds = some vs → KCs K ds (vs.map (He.Dv.v K))
  | [], vs, h => by cases h; rfl
  | d :: r, vs, h => by
    simp only [dvsOf] at h
    split at h
    · rename_i x xs e1 e2
      cases h
      refine ⟨x.v K, xs.map (He.Dv.v K), rfl, ?_, dvs_kc e2⟩
      cases d <;> cases e1 <;> rfl
    · cases h
theorem cstB_ok {K : PySem.W.Frag} {h : Heap} {mg : Str → Option Value} (X : K.In h) (Gm : h.Ns mainGlobals mg) {x : Str} {d : D} (c : cstB K x d = true) : ∃ v u, mg x = some u ∧ RelV v u ∧ KC K d v := by
  unfold cstB at c
  split at c
  · rename_i i
    obtain ⟨t, e⟩ := He.int_ok X Gm c
    exact ⟨.int i, _, e, ⟨t, rfl⟩, rfl⟩
  · rename_i s
    obtain ⟨t, e⟩ := He.str_ok X Gm c
    exact ⟨.str s, _, e, ⟨t, rfl⟩, rfl⟩
  · rename_i ds
    rw [Bool.and_eq_true] at c
    split at c
    · rename_i vs e
      have q := He.tupB_ok c.2 (fun _ => none)
      rcases q with (q | ⟨o, q⟩) | q
      · cases q
      · cases q
      · exact ⟨.ref (He.ga K x), _, He.glo_ok X Gm c.1, rfl, _, _, rfl, q, dvs_kc e⟩
    · cases c.2
  · cases c
abbrev AlY : Type := He.AlD × Bool
def obsY (n : Nat) (fa : List He.Fa) (fn : List He.DefD) (ex : PySem.W.Frag → Bool) (g : Addr → Option Obj) : AlY := (He.obsD fa fn (He.frG g (He.asD g n)), ex (He.frG g (He.asD g n)))
def hookY (n : Nat) (fa : List He.Fa) (fn : List He.DefD) (ex : PySem.W.Frag → Bool) : PySem.W.Hook where
  α := AlY
  obs := fun s => obsY n fa fn ex s.heap.get?
  val := fun _ => (He.valD fn, true)
  says := fun _ h => ∃ K : PySem.W.Frag, K.In h ∧ He.SaysD fa fn K ∧ ex K = true
  of := fun _ _ e => ⟨_, He.frG_in, congrArg (fun z : AlY => z.1) e, congrArg (fun z : AlY => z.2) e⟩
  keeps := fun _ _ _ ⟨K, hK, c⟩ k => ⟨K, PySem.W.Frag.In.keeps hK k, c⟩
theorem obsY_eq {n : Nat} {fa : List He.Fa} {fn : List He.DefD} {ex : PySem.W.Frag → Bool} {g : Addr → Option Obj} {s : Shared} (h : ∀ a, g a = s.heap.get? a) : obsY n fa fn ex g = (hookY n fa fn ex).obs s := by
  have e : g = s.heap.get? := funext h
  rw [e] <;> rfl
/-! ### the facts, from the names -/
def exPairs (xs : List Str) : List He.Fa := xs.flatMap fun x => xs.map fun y => He.Fa.exm x y (decide (x = y))
def faOf (T : Tab) : List He.Fa := T.fname.map He.Fa.glo ++ (T.xname.map He.Fa.glo ++ (T.xname.map He.Fa.exc ++ (exPairs T.xname ++ bnames.map He.Fa.free)))
def dOf (x : Str) (i : FI) : He.DefD := ⟨(x, none), i.name, i.qual, i.params, i.body, i.scope, [], []⟩
def fnOf (T : Tab) (fis : List FI) : List He.DefD := (T.fname.zip fis).map fun p => dOf p.1 p.2
def exOf (T : Tab) (K : PySem.W.Frag) : Bool := T.cst.all fun p => cstB K p.1 p.2
def geOf (T : Tab) (K : PySem.W.Frag) : Ge := ⟨K, fun f => He.ga K (T.fname.getD f ""), T.fname.length, T.xname.length⟩
def xaOf (T : Tab) (K : PySem.W.Frag) : Nat → Addr := fun e => He.ga K (T.xname.getD e "")
def chkAll (T : Tab) : List Fn → List FI → Bool
  | [], is => is.isEmpty
  | fn :: fs, is => match is with
    | i :: r => fiC T fn i && chkAll T fs r
    | [] => false
def BdAll : List Fn → List FI → Prop
  | [], _ => True
  | fn :: fs, is => match is with
    | i :: r => i.bd fn.np ∧ BdAll fs r
    | [] => True
theorem chkAll_get {T : Tab} : ∀ {fs : List Fn} {is : List FI} {f : Nat} {fn : Fn} {i : FI}, chkAll T fs is = true → is[f]? = some i → fs[f]? = some fn → fiC T fn i = true
  | [], _, _, _, _, _, _, e => by simp at e
  | fn :: fs, [], _, _, _, h, _, _ => by simp [chkAll] at h
  | fn :: fs, i :: is, 0, _, _, h, e1, e2 => by
    simp only [chkAll, Bool.and_eq_true] at h
    simp at e1 e2; subst e1 e2; exact h.1
  | fn :: fs, i :: is, f + 1, _, _, h, e1, e2 => by
    simp only [chkAll, Bool.and_eq_true] at h
    exact chkAll_get h.2 (by simpa using e1) (by simpa using e2)
theorem BdAll_get : ∀ {fs : List Fn} {is : List FI} {f : Nat} {fn : Fn} {i : FI}, BdAll fs is → is[f]? = some i → fs[f]? = some fn → i.bd fn.np
  | [], _, _, _, _, _, _, e => by simp at e
  | fn :: fs, [], _, _, _, h, e, _ => by simp at e
  | fn :: fs, i :: is, 0, _, _, h, e1, e2 => by
    simp at e1 e2; subst e1 e2; exact h.1
  | fn :: fs, i :: is, f + 1, _, _, h, e1, e2 => BdAll_get h.2 (by simpa using e1) (by simpa using e2)
theorem pf_of {T : Tab} {fns : List Fn} {fis : List FI} {K : PySem.W.Frag} {h : Heap} {mg : Str → Option Value} (X : K.In h) (Gm : h.Ns mainGlobals mg) (c : He.SaysD (faOf T) (fnOf T fis) K) (ex : exOf T K = true)
    (l1 : fns.length = T.fname.length) (l2 : fis.length = T.fname.length) (nx : nodupB T.xname = true) (ck : chkAll T fns fis = true) (bd : BdAll fns fis) : PF T fns fis (geOf T K) (xaOf T K) mg where
  nf := rfl
  nx := rfl
  lf := l1
  li := l2
  fnm := fun f x e => by
    have m : He.Fa.glo x ∈ faOf T := List.mem_append_left _ (List.mem_map_of_mem (List.mem_of_getElem? e))
    have q := He.glo_ok X Gm (c.facts m)
    rw [q]
    show some (Value.ref (He.ga K x)) = some (Value.ref (He.ga K (T.fname.getD f "")))
    rw [List.getD_eq_getElem?_getD, e]; rfl
  fun_ := fun f i e => by
    have hf : f < T.fname.length := by rw [← l2]; exact (List.getElem?_eq_some_iff.mp e).1
    have ef := List.getElem?_eq_getElem hf
    have m : dOf T.fname[f] i ∈ fnOf T fis := by
      refine List.mem_map.mpr ⟨(T.fname[f], i), ?_, rfl⟩
      refine List.mem_of_getElem? (i := f) ?_
      rw [List.getElem?_zip_eq_some]
      exact ⟨ef, e⟩
    obtain ⟨fd, q⟩ := c.defs m
    refine ⟨fd, ?_⟩
    have ea : He.fAd K (dOf T.fname[f] i).at_ = (geOf T K).fa f := by
      show He.ga K T.fname[f] = He.ga K (T.fname.getD f "")
      rw [List.getD_eq_getElem?_getD, ef]; rfl
    rw [ea] at q
    exact q
  chk := fun f i fn e1 e2 => chkAll_get ck e1 e2
  bd := fun f i fn e1 e2 => BdAll_get bd e1 e2
  exc := fun e x ex => by
    have mx := List.mem_of_getElem? ex
    have m : He.Fa.glo x ∈ faOf T := List.mem_append_right _ (List.mem_append_left _ (List.mem_map_of_mem mx))
    have m2 : He.Fa.exc x ∈ faOf T := List.mem_append_right _ (List.mem_append_right _ (List.mem_append_left _ (List.mem_map_of_mem mx)))
    have ea : xaOf T K e = He.ga K x := by
      unfold xaOf
      rw [List.getD_eq_getElem?_getD, ex]; rfl
    obtain ⟨q1, q2, q3, q4⟩ := He.exc_ok (c.facts m2)
    rw [ea]
    exact ⟨He.glo_ok X Gm (c.facts m), q2, ⟨q3, q4⟩, _, _, _, _, PySem.F.excBase_ValueError, q1⟩
  exm := fun e j he hj => by
    have he : e < T.xname.length := he
    have hj : j < T.xname.length := hj
    have e1 := List.getElem?_eq_getElem he
    have e2 := List.getElem?_eq_getElem hj
    have m : He.Fa.exm T.xname[e] T.xname[j] (decide (T.xname[e] = T.xname[j])) ∈ faOf T :=
      List.mem_append_right _ (List.mem_append_right _ (List.mem_append_right _ (List.mem_append_left _ (List.mem_flatMap.mpr ⟨_, List.mem_of_getElem? e1, List.mem_map_of_mem (List.mem_of_getElem? e2)⟩))))
    have q := He.exm_ok (c.facts m)
    have ea : xaOf T K e = He.ga K T.xname[e] := by
      unfold xaOf
      rw [List.getD_eq_getElem?_getD, e1]; rfl
    have eb : xaOf T K j = He.ga K T.xname[j] := by
      unfold xaOf
      rw [List.getD_eq_getElem?_getD, e2]; rfl
    rw [ea, eb]
    refine q.trans ?_
    congr 1
    have nd := nodupB_ok nx
    by_cases h : e = j
    · subst h; simp
    · rw [decide_eq_false h, decide_eq_false (fun z => h ((List.getElem_inj nd).mp z))]
  free := fun x hx => He.free_ok X Gm (c.facts (List.mem_append_right _ (List.mem_append_right _ (List.mem_append_right _ (List.mem_append_right _ (List.mem_map_of_mem hx))))))
  cst := fun x d e => by
    have key : ∀ {l : List (Str × D)}, (l.all fun p => cstB K p.1 p.2) = true → l.lookup x = some d → cstB K x d = true := fun {l} => by
      induction l with
      | nil => intro _ e; simp at e
      | cons p r ih =>
        intro ha e
        rw [List.all_cons, Bool.and_eq_true] at ha
        obtain ⟨y, d'⟩ := p
        rw [List.lookup_cons] at e
        split at e
        · rename_i hb
          cases e
          have : x = y := by simpa using hb
          subst this
          exact ha.1
        · exact ih ha.2 e
    exact cstB_ok X Gm (key ex e)
/-- the law's promise from what the evaluator tells -/
theorem law_sp {T : Tab} {fns : List Fn} {K : PySem.W.Frag} {k f : Nat} (hev : ∀ is : List Int, is.length ≤ 63 → ∃ h, callF fns k f [.sc is] [] = .ok (.bl true) h) {H : Hp} {a : Addr} {ns : List Int} (hl : ns.length ≤ 63) (hS : SqL K H a (ns.map V.int)) :
    spF (geOf T K) (xaOf T K) (callF fns k) f [.ref a] H (fun v _ => v = .bl true) fun _ _ _ => False := by
  obtain ⟨h', e⟩ := hev ns hl
  refine ⟨fun _ => False, [], [], [.sc ns], ⟨rfl, .nil, fun n a c e _ => by simp at e, fun a ha => by simp at ha, fun a z => z.elim⟩, ⟨.ref a, [], rfl, ⟨a, rfl, ?_⟩, rfl⟩, ?_⟩
  · rcases hS with q | q
    · exact .inr ⟨q, by simp, fun z => z⟩
    · exact .inl q
  · rw [e]
    exact fun v H' ι' g r s => s
/-- nothing is let out -/
abbrev CXN : CXT := fun _ _ _ _ _ _ => False
theorem fn_close {P : Program} {w : World} {K : PySem.W.Frag} {mg : Str → Option Value} {base : Heap} {k : Nat} {f : Addr} {fd : FuncData} {ps : List Str} {sp : Sp} (F : FnOk P w K mg base (L2.CX P w) k f fd ps sp) :
    FnOk P w K mg base CXN k f fd ps (fun vs H Q _ => sp vs H Q fun _ _ _ => False) where
  len := fun vs H Q _ h => F.len vs H Q _ h
  run := fun A outer s H args us vs Q E hr e b r h => codeAny_mono (F.run A outer s H args us vs Q (fun _ _ _ => False) hr e b r h) fun r s' q => by
    cases r with
    | ok a => cases a <;> exact q
    | error e =>
      obtain ⟨_, _, _, _, _, _, _, _, _, _, _, _, z⟩ := (show L2.CX P w outer H s (fun _ _ _ => False) e s' from q)
      exact z
end PL
end
section
set_option Elab.async false
set_option linter.all false
set_option maxRecDepth 100000
/-! PLM: to evaluate by simp; loops stand as they are. -/
namespace PL
theorem whileL_eq (c : Env → Hpp → R Bool) (b : Env → Hpp → O) (ρ : Env) (h : Hpp) : whileL c b ρ h = match c ρ h with
    | .ok true h1 => match b ρ h1 with
      | .nx ρ' h' => whileL c b ρ' h'
      | .ct ρ' h' => whileL c b ρ' h'
      | .bk ρ' h' => .nx ρ' h'
      | .no => .no
      | .rt d h' => .rt d h'
      | .er x ρ' h' => .er x ρ' h'
    | .ok false h1 => .nx ρ h1
    | .er x h1 => .er x ρ h1
    | .no => .no := by
  unfold whileL
  rw [whileO.eq_def]
  cases c ρ h with
  | ok k h1 =>
    cases k with
    | true => simp only; cases b ρ h1 <;> rfl
    | false => rfl
  | er x h1 => rfl
  | no => rfl
theorem callF_some {fns : List Fn} {f : Nat} {fn : Fn} (k : Nat) (ds : List D) (h : Hpp) (e : fns[f]? = some fn) : callF fns (k + 1) f ds h = runFn (callF fns k) fn ds h := by
  simp only [callF, e]
/-! outcomes -/
def ifO (r : R Bool) (ρ : Env) (f g : Hpp → O) : O := match r with
  | .ok true h => f h
  | .ok false h => g h
  | .er x h => .er x ρ h
  | .no => .no
@[simp] theorem ifO_ok (b : Bool) (h : Hpp) (ρ : Env) (f g : Hpp → O) : ifO (.ok b h) ρ f g = if b = true then f h else g h := by cases b <;> rfl
@[simp] theorem ifO_er (x : Nat) (h : Hpp) (ρ : Env) (f g : Hpp → O) : ifO (.er x h) ρ f g = .er x ρ h := id rfl
@[simp] theorem tru_ok (d : D) (h : Hpp) : tru (.ok d h) = opt (truthy d h) h := id rfl
@[simp] theorem tru_er (c : Nat) (h : Hpp) : tru (.er c h) = .er c h := id rfl
@[simp] theorem truthy_bl (b : Bool) (h : Hpp) : truthy (.bl b) h = some b := id rfl
@[simp] theorem truthy_int (i : Int) (h : Hpp) : truthy (.int i) h = some (decide (i ≠ 0)) := id rfl
@[simp] theorem truthy_non (h : Hpp) : truthy .non h = some false := id rfl
@[simp] theorem truthy_tup (xs : List D) (h : Hpp) : truthy (.tup xs) h = some (!xs.isEmpty) := id rfl
@[simp] theorem truthy_fl (xs : List D) (h : Hpp) : truthy (.fl xs) h = some (!xs.isEmpty) := id rfl
def whl (cal : Cal) (c : E) (b : Ss) (ρ : Env) (h : Hpp) : O := whileL (fun ρ h => tru (ev cal c ρ h)) (fun ρ h => exs cal b ρ h) ρ h
/-- one turn of a loop that goes on -/
def turn (o : O) (f : Env → Hpp → O) : O := match o with
  | .nx ρ h => f ρ h
  | .ct ρ h => f ρ h
  | .bk ρ h => .nx ρ h
  | .no => .no
  | .rt d h => .rt d h
  | .er x ρ h => .er x ρ h
@[simp] theorem turn_nx (ρ : Env) (h : Hpp) (f : Env → Hpp → O) : turn (.nx ρ h) f = f ρ h := id rfl
@[simp] theorem turn_ct (ρ : Env) (h : Hpp) (f : Env → Hpp → O) : turn (.ct ρ h) f = f ρ h := id rfl
@[simp] theorem turn_bk (ρ : Env) (h : Hpp) (f : Env → Hpp → O) : turn (.bk ρ h) f = .nx ρ h := id rfl
@[simp] theorem turn_rt (d : D) (h : Hpp) (f : Env → Hpp → O) : turn (.rt d h) f = .rt d h := id rfl
@[simp] theorem turn_er (x : Nat) (ρ : Env) (h : Hpp) (f : Env → Hpp → O) : turn (.er x ρ h) f = .er x ρ h := id rfl
theorem whl_eq (cal : Cal) (c : E) (b : Ss) (ρ : Env) (h : Hpp) : whl cal c b ρ h = ifO (tru (ev cal c ρ h)) ρ (fun h1 => turn (exs cal b ρ h1) fun ρ' h' => whl cal c b ρ' h') (fun h1 => .nx ρ h1) := by
  unfold whl
  rw [whileL_eq]
  cases tru (ev cal c ρ h) with
  | ok k h1 => cases k with
    | true => simp only [ifO]; cases exs cal b ρ h1 <;> rfl
    | false => rfl
  | er x h1 => rfl
  | no => rfl
def okH (hl : List (Nat × Cell)) (h : Hpp) : Bool := hl.all fun p => decide (h[p.1]? = some p.2)
@[simp] theorem okH_nil (h : Hpp) : okH [] h = true := id rfl
def forr (cal : Cal) (tg : Tg) (b : Ss) (hl : List (Nat × Cell)) (ds : List D) (ρ : Env) (h : Hpp) : O := forL (okH hl) (fun ρ d => sto tg ρ d) (fun ρ h => exs cal b ρ h) ds ρ h
theorem forr_nil (cal : Cal) (tg : Tg) (b : Ss) (hl : List (Nat × Cell)) (ρ : Env) (h : Hpp) : forr cal tg b hl [] ρ h = if okH hl h = true then .nx ρ h else .no := rfl
theorem forr_cons (cal : Cal) (tg : Tg) (b : Ss) (hl : List (Nat × Cell)) (d : D) (ds : List D) (ρ ρ1 : Env) (h : Hpp) (c : okH hl h = true) (e : sto tg ρ d = some ρ1) : forr cal tg b hl (d :: ds) ρ h = turn (exs cal b ρ1 h) fun ρ' h' => forr cal tg b hl ds ρ' h' := by
  unfold forr
  simp only [forL]
  rw [if_pos c]
  rw [e]
  simp only
  cases exs cal b ρ1 h <;> rfl
def cmp1 (cal : Cal) (elt : E) (tg : Tg) (cs : Es) (hl : List (Nat × Cell)) (ds : List D) (ρ : Env) (h : Hpp) : R (List D) := compL (okH hl) (fun d => sto tg ρ d) (fun ρ h => evc cal cs ρ h) (fun ρ h => ev cal elt ρ h) ds h
theorem cmp1_nil (cal : Cal) (elt : E) (tg : Tg) (cs : Es) (hl : List (Nat × Cell)) (ρ : Env) (h : Hpp) : cmp1 cal elt tg cs hl [] ρ h = if okH hl h = true then .ok [] h else .no := rfl
theorem cmp1_cons (cal : Cal) (elt : E) (tg : Tg) (cs : Es) (hl : List (Nat × Cell)) (d : D) (ds : List D) (ρ ρ1 : Env) (h : Hpp) (c : okH hl h = true) (e : sto tg ρ d = some ρ1) : cmp1 cal elt tg cs hl (d :: ds) ρ h =
    (evc cal cs ρ1 h).bind fun b h1 => if b = true then (ev cal elt ρ1 h1).bind fun y h2 => (cmp1 cal elt tg cs hl ds ρ h2).bind fun ys h3 => .ok (y :: ys) h3 else cmp1 cal elt tg cs hl ds ρ h1 := by
  unfold cmp1
  simp only [compL]
  rw [if_pos c, e]
  simp only
  cases evc cal cs ρ1 h with
  | ok b h1 => cases b <;> rfl
  | er c h1 => rfl
  | no => rfl
theorem cmp1_name (cal : Cal) (elt : E) (i : Nat) (cs : Es) (hl : List (Nat × Cell)) (d : D) (ds : List D) (ρ : Env) (h : Hpp) : cmp1 cal elt (.name i) cs hl (d :: ds) ρ h = if okH hl h = true then
    (evc cal cs (ρ.set i (some d)) h).bind fun b h1 => if b = true then (ev cal elt (ρ.set i (some d)) h1).bind fun y h2 => (cmp1 cal elt (.name i) cs hl ds ρ h2).bind fun ys h3 => .ok (y :: ys) h3 else cmp1 cal elt (.name i) cs hl ds ρ h1 else .no := by
  by_cases c : okH hl h = true
  · rw [if_pos c]; exact cmp1_cons cal elt (.name i) cs hl d ds ρ _ h c (by simp [sto])
  · rw [if_neg c]
    unfold cmp1
    simp only [compL]
    rw [if_neg c]
/-- every element told by itself -/
theorem cmp1_map (cal : Cal) (elt : E) (tg : Tg) (hl : List (Nat × Cell)) (ρ : Env) (h : Hpp) (f : D → D) (c : okH hl h = true) : ∀ ds : List D, (∀ d ∈ ds, ∃ ρ1, sto tg ρ d = some ρ1 ∧ ev cal elt ρ1 h = .ok (f d) h) → cmp1 cal elt tg .nil hl ds ρ h = .ok (ds.map f) h
  | [], _ => by rw [cmp1_nil, if_pos c]; rfl
  | d :: ds, q => by
    obtain ⟨ρ1, e1, e2⟩ := q d List.mem_cons_self
    rw [cmp1_cons cal elt tg .nil hl d ds ρ ρ1 h c e1]
    simp only [evc, R.bind_ok, if_true, e2]
    rw [cmp1_map cal elt tg hl ρ h f c ds fun d hd => q d (List.mem_cons_of_mem _ hd)]
    rfl
section
variable (cal : Cal) (ρ : Env) (h : Hpp)
@[simp] theorem ev_cst (d : D) : ev cal (.cst d) ρ h = .ok d h := by simp only [ev]
theorem ev_var {i : Nat} {d : D} (e : ρ[i]? = some (some d)) : ev cal (.var i) ρ h = .ok d h := by simp only [ev, e]
@[simp] theorem ev_v0 (a : D) (r : Env) : ev cal (.var 0) (some a :: r) h = .ok a h := by simp [ev]
@[simp] theorem ev_v1 (a : D) (x : Option D) (r : Env) : ev cal (.var 1) (x :: some a :: r) h = .ok a h := by simp [ev]
@[simp] theorem ev_v2 (a : D) (x y : Option D) (r : Env) : ev cal (.var 2) (x :: y :: some a :: r) h = .ok a h := by simp [ev]
@[simp] theorem ev_v3 (a : D) (x y z : Option D) (r : Env) : ev cal (.var 3) (x :: y :: z :: some a :: r) h = .ok a h := by simp [ev]
@[simp] theorem ev_v4 (a : D) (x y z u : Option D) (r : Env) : ev cal (.var 4) (x :: y :: z :: u :: some a :: r) h = .ok a h := by simp [ev]
@[simp] theorem ev_v5 (a : D) (x y z u v : Option D) (r : Env) : ev cal (.var 5) (x :: y :: z :: u :: v :: some a :: r) h = .ok a h := by simp [ev]
@[simp] theorem ev_v6 (a : D) (x y z u v w : Option D) (r : Env) : ev cal (.var 6) (x :: y :: z :: u :: v :: w :: some a :: r) h = .ok a h := by simp [ev]
@[simp] theorem ev_v7 (a : D) (x y z u v w s : Option D) (r : Env) : ev cal (.var 7) (x :: y :: z :: u :: v :: w :: s :: some a :: r) h = .ok a h := by simp [ev]
@[simp] theorem ev_glb (x : Str) (d : D) : ev cal (.glb x d) ρ h = .ok d h := by simp only [ev]
@[simp] theorem ev_tup (es : Es) : ev cal (.tup es) ρ h = (evs cal es ρ h).bind fun ds h => .ok (.tup ds) h := by simp only [ev]
@[simp] theorem ev_lst (th : Bool) (es : Es) : ev cal (.lst th es) ρ h = (evs cal es ρ h).bind fun ds h => new th ds h := by simp only [ev]
@[simp] theorem ev_bin (th : Bool) (op : Bop) (a b : E) : ev cal (.bin th op a b) ρ h = (ev cal a ρ h).bind fun x h => (ev cal b ρ h).bind fun y h => bop op th x y h := by simp only [ev]
def negR (x : D) (h : Hpp) : R D := match x with
  | .int i => .ok (.int (-i)) h
  | _ => .no
@[simp] theorem negR_int (i : Int) : negR (.int i) h = .ok (.int (-i)) h := id rfl
@[simp] theorem ev_neg (a : E) : ev cal (.neg a) ρ h = (ev cal a ρ h).bind fun x h => negR x h := by
  simp only [ev]; rfl
@[simp] theorem ev_not (a : E) : ev cal (.not a) ρ h = (tru (ev cal a ρ h)).bind fun b h => .ok (.bl (!b)) h := by simp only [ev]
@[simp] theorem ev_and (a b : E) : ev cal (.and a b) ρ h = (ev cal a ρ h).bind fun x h => (opt (truthy x h) h).bind fun k h => if k = true then ev cal b ρ h else .ok x h := by
  simp only [ev]
  cases ev cal a ρ h with
  | ok x h1 =>
    simp only [R.bind_ok]
    cases truthy x h1 with
    | some k => cases k <;> rfl
    | none => rfl
  | er c h1 => rfl
  | no => rfl
@[simp] theorem ev_or (a b : E) : ev cal (.or a b) ρ h = (ev cal a ρ h).bind fun x h => (opt (truthy x h) h).bind fun k h => if k = true then .ok x h else ev cal b ρ h := by
  simp only [ev]
  cases ev cal a ρ h with
  | ok x h1 =>
    simp only [R.bind_ok]
    cases truthy x h1 with
    | some k => cases k <;> rfl
    | none => rfl
  | er c h1 => rfl
  | no => rfl
@[simp] theorem ev_cmp (op : Cop) (a b : E) : ev cal (.cmp op a b) ρ h = (ev cal a ρ h).bind fun x h => (ev cal b ρ h).bind fun y h => (opt (cop op x y h) h).bind fun k h => .ok (.bl k) h := by simp only [ev]
@[simp] theorem ev_isN (ng : Bool) (a : E) : ev cal (.isN ng a) ρ h = (ev cal a ρ h).bind fun x h => .ok (.bl (decide (x = .non) != ng)) h := by simp only [ev]
@[simp] theorem ev_chain (o1 o2 : Cop) (a b c : E) : ev cal (.chain o1 o2 a b c) ρ h = (ev cal a ρ h).bind fun x h => (ev cal b ρ h).bind fun y h => (opt (cop o1 x y h) h).bind fun k h => if k = true then (ev cal c ρ h).bind fun z h => (opt (cop o2 y z h) h).bind fun k h => .ok (.bl k) h else .ok (.bl false) h := by
  simp only [ev]
  congr 1; funext x h1; congr 1; funext y h2; congr 1; funext k h3
  cases k <;> rfl
@[simp] theorem ev_ite (c a b : E) : ev cal (.ite c a b) ρ h = (tru (ev cal c ρ h)).bind fun k h => if k = true then ev cal a ρ h else ev cal b ρ h := by
  simp only [ev]
  congr 1; funext k h1
  cases k <;> rfl
@[simp] theorem ev_call (f : Nat) (es : Es) : ev cal (.call f es) ρ h = (evs cal es ρ h).bind fun ds h => cal f ds h := by simp only [ev]
theorem ev_callv {i f : Nat} (es : Es) (e : ρ[i]? = some (some (.fn f))) : ev cal (.callv i es) ρ h = (evs cal es ρ h).bind fun ds h => cal f ds h := by simp only [ev, e]
@[simp] theorem ev_bi (b : Bi) (th : Bool) (es : Es) : ev cal (.bi b th es) ρ h = (evs cal es ρ h).bind fun ds h => doBi b th ds h := by simp only [ev]
@[simp] theorem ev_isi (a : E) (ts : List Ty) : ev cal (.isi a ts) ρ h = (ev cal a ρ h).bind fun x h => if tyOk x h = true then .ok (.bl (ts.any fun t => isTy x h t)) h else .no := by simp only [ev]
@[simp] theorem ev_mth (m : Mt) (o : E) (es : Es) : ev cal (.mth m o es) ρ h = (ev cal o ρ h).bind fun x h => if mtRecv m x h = true then (evs cal es ρ h).bind fun ds h => doMt m x ds h else .no := by simp only [ev]
@[simp] theorem ev_idx (a b : E) : ev cal (.idx a b) ρ h = (ev cal a ρ h).bind fun x h => (ev cal b ρ h).bind fun y h => opt (item x y h) h := by simp only [ev]
@[simp] theorem ev_sl (th : Bool) (a : E) (lo hi : Es) : ev cal (.sl th a lo hi) ρ h = (ev cal a ρ h).bind fun x h => (evo cal lo ρ h).bind fun l h => (evo cal hi ρ h).bind fun u h => slice th x l u h := by simp only [ev]
@[simp] theorem ev_rev (th : Bool) (a : E) : ev cal (.rev th a) ρ h = (ev cal a ρ h).bind fun x h => revd th x h := by simp only [ev]
@[simp] theorem ev_comp (th : Bool) (elt : E) (tg : Tg) (it : Itr) (cs : Es) (own : List Nat) : ev cal (.comp th elt tg it cs own) ρ h = (src cal it ρ h).bind fun s h => if s.items.length ≤ line then (noEr (cmp1 cal elt tg cs s.held s.items (wipe ρ own) h)).bind fun ds h => new th ds h else .no := by
  simp only [ev]; rfl
@[simp] theorem evs_nil : evs cal .nil ρ h = .ok [] h := by simp only [evs]
@[simp] theorem evs_cons (e : E) (es : Es) : evs cal (.cons e es) ρ h = (ev cal e ρ h).bind fun d h => (evs cal es ρ h).bind fun ds h => .ok (d :: ds) h := by simp only [evs]
@[simp] theorem evo_nil : evo cal .nil ρ h = .ok none h := by simp only [evo]
def oInt (d : D) (h : Hpp) : R (Option Int) := match d with
  | .int i => .ok (some i) h
  | _ => .no
@[simp] theorem oInt_int (i : Int) : oInt (.int i) h = .ok (some i) h := id rfl
@[simp] theorem evo_cons (e : E) (es : Es) : evo cal (.cons e es) ρ h = (ev cal e ρ h).bind fun d h => oInt d h := by simp only [evo]; rfl
@[simp] theorem evc_nil : evc cal .nil ρ h = .ok true h := by simp only [evc]
@[simp] theorem evc_cons (e : E) (es : Es) : evc cal (.cons e es) ρ h = (tru (ev cal e ρ h)).bind fun b h => if b = true then evc cal es ρ h else .ok false h := by
  simp only [evc]
  congr 1; funext k h1
  cases k <;> rfl
@[simp] theorem src_of (e : E) : src cal (.of e) ρ h = (ev cal e ρ h).bind fun d h => srcOf d h := by simp only [src]
def rng1 (x : D) (h : Hpp) : R Src := match x with
  | .int i => srcRange 0 i h
  | _ => .no
@[simp] theorem rng1_int (i : Int) : rng1 (.int i) h = srcRange 0 i h := id rfl
@[simp] theorem src_range1 (a : E) : src cal (.range1 a) ρ h = (ev cal a ρ h).bind fun x h => rng1 x h := by simp only [src]; rfl
def rng2 (x y : D) (h : Hpp) : R Src := match x, y with
  | .int i, .int j => srcRange i j h
  | _, _ => .no
@[simp] theorem rng2_int (i j : Int) : rng2 (.int i) (.int j) h = srcRange i j h := id rfl
@[simp] theorem src_range2 (a b : E) : src cal (.range2 a b) ρ h = (ev cal a ρ h).bind fun x h => (ev cal b ρ h).bind fun y h => rng2 x y h := by simp only [src]; rfl
def srcE (d : D) (h : Hpp) : R Src := match seqOf d h with
  | some xs => .ok ⟨enumL 0 xs, heldOf d h⟩ h
  | none => .no
@[simp] theorem src_enum (e : E) : src cal (.enum e) ρ h = (ev cal e ρ h).bind fun d h => srcE d h := by simp only [src]; rfl
def srcZ (x y : D) (h : Hpp) : R Src := match zipOf x y h with
  | some xs => .ok ⟨xs, heldOf x h ++ heldOf y h⟩ h
  | none => .no
@[simp] theorem src_zip (a b : E) : src cal (.zip a b) ρ h = (ev cal a ρ h).bind fun x h => (ev cal b ρ h).bind fun y h => srcZ x y h := by simp only [src]; rfl
@[simp] theorem ex_exp (e : E) : ex cal (.exp e) ρ h = andThen (ev cal e ρ h) ρ fun _ h => .nx ρ h := by simp only [ex]
@[simp] theorem ex_asg (t : Lv) (e : E) : ex cal (.asg t e) ρ h = andThen (ev cal e ρ h) ρ fun d h => asg cal t d ρ h := by simp only [ex]
@[simp] theorem ex_iff (c : E) (a b : Ss) : ex cal (.iff c a b) ρ h = ifO (tru (ev cal c ρ h)) ρ (fun h => exs cal a ρ h) (fun h => exs cal b ρ h) := by
  simp only [ex]
  cases tru (ev cal c ρ h) with
  | ok k h1 => cases k <;> rfl
  | er c h1 => rfl
  | no => rfl
@[simp] theorem ex_whl (c : E) (b : Ss) : ex cal (.whl c b) ρ h = whl cal c b ρ h := by simp only [ex]; rfl
def thenS (r : R Src) (ρ : Env) (f : Src → Hpp → O) : O := match r with
  | .ok s h => f s h
  | .er c h => .er c ρ h
  | .no => .no
@[simp] theorem thenS_ok (s : Src) (f : Src → Hpp → O) : thenS (.ok s h) ρ f = f s h := id rfl
@[simp] theorem ex_for (tg : Tg) (it : Itr) (b : Ss) : ex cal (.for_ tg it b) ρ h = thenS (src cal it ρ h) ρ fun s h1 => forr cal tg b s.held s.items ρ h1 := by simp only [ex]; rfl
@[simp] theorem ex_ret (e : E) : ex cal (.ret e) ρ h = andThen (ev cal e ρ h) ρ fun d h => .rt d h := by simp only [ex]
@[simp] theorem ex_retn : ex cal .retn ρ h = .rt .non h := by simp only [ex]
@[simp] theorem ex_raise (c : Nat) : ex cal (.raise c) ρ h = .er c ρ h := by simp only [ex]
@[simp] theorem ex_pass : ex cal .pass ρ h = .nx ρ h := by simp only [ex]
@[simp] theorem ex_cont : ex cal .cont ρ h = .ct ρ h := by simp only [ex]
@[simp] theorem ex_brk : ex cal .brk ρ h = .bk ρ h := by simp only [ex]
def hand (cal : Cal) (o : O) (hs : Hs) : O := match o with
  | .er c ρ' h' => exh cal hs c ρ' h'
  | o => o
@[simp] theorem ex_tr (b : Ss) (hs : Hs) : ex cal (.tr b hs) ρ h = hand cal (exs cal b ρ h) hs := by simp only [ex]; rfl
@[simp] theorem hand_er (c : Nat) (hs : Hs) : hand cal (.er c ρ h) hs = exh cal hs c ρ h := id rfl
@[simp] theorem hand_nx (hs : Hs) : hand cal (.nx ρ h) hs = .nx ρ h := id rfl
@[simp] theorem hand_rt (d : D) (hs : Hs) : hand cal (.rt d h) hs = .rt d h := id rfl
@[simp] theorem exh_nil (c : Nat) : exh cal .nil c ρ h = .er c ρ h := by simp only [exh]
@[simp] theorem exh_cons (j c : Nat) (d : D) (hs : Hs) : exh cal (.cons j d hs) c ρ h = if j = c then .rt d h else exh cal hs c ρ h := by simp only [exh]
@[simp] theorem exs_nil : exs cal .nil ρ h = .nx ρ h := by simp only [exs]
@[simp] theorem exs_cons (s : S) (ss : Ss) : exs cal (.cons s ss) ρ h = (ex cal s ρ h).seq fun ρ h => exs cal ss ρ h := by simp only [exs]
@[simp] theorem asg_name (i : Nat) (d : D) : asg cal (.name i) d ρ h = .nx (ρ.set i (some d)) h := by simp only [asg]
@[simp] theorem asg_tup (ts : Lv) (xs : List D) : asg cal (.tup ts) (.tup xs) ρ h = if xs.length = ts.len then asgs cal ts xs ρ h else .no := by simp only [asg]
@[simp] theorem asgs_nil : asgs cal .nil [] ρ h = .nx ρ h := by simp only [asgs]
@[simp] theorem asgs_cons (t ts : Lv) (d : D) (r : List D) : asgs cal (.cons t ts) (d :: r) ρ h = (asg cal t d ρ h).seq fun ρ' h' => asgs cal ts r ρ' h' := by
  simp only [asgs]
  cases asg cal t d ρ h <;> rfl
@[simp] theorem len_cons (t ts : Lv) : (Lv.cons t ts).len = ts.len + 1 := id rfl
@[simp] theorem len_nil : Lv.nil.len = 0 := id rfl
/-! operators of numbers -/
@[simp] theorem bop_add (th : Bool) (a b : Int) : bop .add th (.int a) (.int b) h = .ok (.int (a + b)) h := id rfl
@[simp] theorem bop_sub (th : Bool) (a b : Int) : bop .sub th (.int a) (.int b) h = .ok (.int (a - b)) h := id rfl
@[simp] theorem bop_mul (th : Bool) (a b : Int) : bop .mul th (.int a) (.int b) h = if mulOk a b = true then .ok (.int (a * b)) h else .no := id rfl
@[simp] theorem bop_fdiv (th : Bool) (a b : Int) : bop .fdiv th (.int a) (.int b) h = if divOk b = true then .ok (.int (a.fdiv b)) h else .no := id rfl
@[simp] theorem bop_mod (th : Bool) (a b : Int) : bop .mod th (.int a) (.int b) h = if b ≠ 0 then .ok (.int (a.fmod b)) h else .no := id rfl
@[simp] theorem cop_lt (a b : Int) : cop .lt (.int a) (.int b) h = some (decide (a < b)) := id rfl
@[simp] theorem cop_le (a b : Int) : cop .le (.int a) (.int b) h = some (decide (a ≤ b)) := id rfl
@[simp] theorem cop_gt (a b : Int) : cop .gt (.int a) (.int b) h = some (decide (a > b)) := id rfl
@[simp] theorem cop_ge (a b : Int) : cop .ge (.int a) (.int b) h = some (decide (a ≥ b)) := id rfl
@[simp] theorem pyEq_int (a b : Int) : pyEq (.int a) (.int b) h = some (decide (a = b)) := by
  simp [pyEq, res, fit, deq, Bool.beq_eq_decide_eq]
@[simp] theorem cop_eq (x y : D) : cop .eq x y h = pyEq x y h := id rfl
@[simp] theorem cop_ne (x y : D) : cop .ne x y h = (pyEq x y h).map (!·) := id rfl
@[simp] theorem pyEq_bl (a b : Bool) : pyEq (.bl a) (.bl b) h = some (a == b) := by
  simp [pyEq, res, fit, deq]
@[simp] theorem bi_abs (th : Bool) (i : Int) : doBi .abs th [.int i] h = .ok (.int i.natAbs) h := by
  have : (if i < 0 then -i else i) = (i.natAbs : Int) := by split <;> omega
  simp [doBi, this]
@[simp] theorem bi_int (th : Bool) (i : Int) : doBi .int th [.int i] h = .ok (.int i) h := id rfl
@[simp] theorem bi_len_tup (th : Bool) (xs : List D) : doBi .len th [.tup xs] h = .ok (.int xs.length) h := id rfl
@[simp] theorem bi_len_fl (th : Bool) (xs : List D) : doBi .len th [.fl xs] h = .ok (.int xs.length) h := id rfl
@[simp] theorem item_tup0 (x : D) (r : List D) : item (.tup (x :: r)) (.int 0) h = some x := by simp [item, dicOf, seqOf, atI, ixN]
@[simp] theorem item_tup1 (x y : D) (r : List D) : item (.tup (x :: y :: r)) (.int 1) h = some y := by
  have : (1 : Int) < (r.length : Int) + 1 + 1 := by omega
  simp [item, dicOf, seqOf, atI, ixN, this]
end
@[simp] theorem wipe_nil (ρ : Env) : wipe ρ [] = ρ := id rfl
@[simp] theorem wipe_cons (ρ : Env) (i : Nat) (r : List Nat) : wipe ρ (i :: r) = (wipe ρ r).set i none := id rfl
@[simp] theorem noEr_ok {α : Type} (a : α) (h : Hpp) : noEr (.ok a h) = .ok a h := id rfl
@[simp] theorem new_f (xs : List D) (h : Hpp) : new false xs h = .ok (.fl xs) h := id rfl
@[simp] theorem new_t (xs : List D) (h : Hpp) : new true xs h = .ok (.ref h.length) (h ++ [.lst xs]) := id rfl
@[simp] theorem srcOf_fl (xs : List D) (h : Hpp) : srcOf (.fl xs) h = .ok ⟨xs, []⟩ h := id rfl
@[simp] theorem srcOf_tup (xs : List D) (h : Hpp) : srcOf (.tup xs) h = .ok ⟨xs, []⟩ h := id rfl
@[simp] theorem bi_all (th : Bool) (xs : List D) (h : Hpp) : doBi .all th [.fl xs] h = match blsOf xs with
    | some bs => .ok (.bl (bs.all id)) h
    | none => .no := id rfl
@[simp] theorem blsOf_nil : blsOf [] = some [] := id rfl
@[simp] theorem blsOf_cons (b : Bool) (r : List D) : blsOf (.bl b :: r) = (blsOf r).map (b :: ·) := id rfl
theorem blsOf_true : ∀ n : Nat, blsOf (List.replicate n (.bl true)) = some (List.replicate n true)
  | 0 => rfl
  | n + 1 => by rw [List.replicate_succ, blsOf_cons, blsOf_true n]; rfl
@[simp] theorem tyOk_non (h : Hpp) : tyOk .non h = true := id rfl
@[simp] theorem tyOk_bl (b : Bool) (h : Hpp) : tyOk (.bl b) h = true := id rfl
@[simp] theorem tyOk_int (b : Int) (h : Hpp) : tyOk (.int b) h = true := id rfl
@[simp] theorem tyOk_str (b : Str) (h : Hpp) : tyOk (.str b) h = true := id rfl
@[simp] theorem tyOk_tup (b : List D) (h : Hpp) : tyOk (.tup b) h = true := id rfl
@[simp] theorem tyOk_fl (b : List D) (h : Hpp) : tyOk (.fl b) h = true := id rfl
theorem range0 {i : Int} (h0 : -1000000 ≤ i) (h1 : i ≤ 16000000) (h : Hpp) : srcRange 0 i h = .ok ⟨rangeL 0 i.toNat 1, []⟩ h := by
  unfold srcRange
  rw [Int.sub_zero, if_pos]
  refine ⟨by decide, by decide, by omega, by omega, ?_⟩
  have : line = 16777216 := rfl
  omega
theorem rangeL_len (lo : Int) (n : Nat) (c : Int) : (rangeL lo n c).length = n := by
  unfold rangeL; rw [List.length_map, List.length_range]
def augI (x : Int) (y : D) (op : Bop) (i : Nat) (ρ : Env) (h : Hpp) : O := match y with
  | .int b => andThen (bop op false (.int x) (.int b) h) ρ fun z h => .nx (ρ.set i (some z)) h
  | _ => .no
@[simp] theorem augI_int (x b : Int) (op : Bop) (i : Nat) (ρ : Env) (h : Hpp) : augI x (.int b) op i ρ h = andThen (bop op false (.int x) (.int b) h) ρ fun z h => .nx (ρ.set i (some z)) h := id rfl
theorem ex_aug (cal : Cal) (i : Nat) (op : Bop) (e : E) (ρ : Env) (h : Hpp) (x : Int) (q : ρ[i]? = some (some (.int x))) : ex cal (.aug i op e) ρ h = andThen (ev cal e ρ h) ρ fun y h => augI x y op i ρ h := by
  simp only [ex, q]
  congr 1
  funext y h1
  cases y <;> rfl
@[simp] theorem ex_aug1 (cal : Cal) (op : Bop) (e : E) (a : Option D) (x : Int) (r : Env) (h : Hpp) : ex cal (.aug 1 op e) (a :: some (.int x) :: r) h = andThen (ev cal e (a :: some (.int x) :: r) h) (a :: some (.int x) :: r) fun y h => augI x y op 1 (a :: some (.int x) :: r) h := ex_aug cal 1 op e _ h x rfl
theorem rangeL_succ (lo : Int) (n : Nat) : rangeL lo (n + 1) 1 = .int lo :: rangeL (lo + 1) n 1 := by
  unfold rangeL
  rw [List.range_succ_eq_map, List.map_cons, List.map_map]
  congr 1
  · simp
  · apply List.map_congr_left
    intro i _
    show D.int (lo + ((i + 1 : Nat) : Int) * 1) = D.int (lo + 1 + (i : Int) * 1)
    congr 1; omega
@[simp] theorem ev_callv0 (cal : Cal) (f : Nat) (es : Es) (r : Env) (h : Hpp) : ev cal (.callv 0 es) (some (.fn f) :: r) h = (evs cal es (some (.fn f) :: r) h).bind fun ds h => cal f ds h := ev_callv cal _ h es rfl
@[simp] theorem pureL_nil : pureL [] = true := id rfl
@[simp] theorem pureL_cons (x : D) (r : List D) : pureL (x :: r) = (pureD x && pureL r) := id rfl
@[simp] theorem pureD_tup (xs : List D) : pureD (.tup xs) = pureL xs := id rfl
@[simp] theorem pureD_fl (xs : List D) : pureD (.fl xs) = pureL xs := id rfl
@[simp] theorem pureD_ref (n : Nat) : pureD (.ref n) = false := id rfl
@[simp] theorem noLs_nil : noLs [] = true := id rfl
@[simp] theorem noLs_cons (x : D) (r : List D) : noLs (x :: r) = (noL x && noLs r) := id rfl
@[simp] theorem noL_tup (xs : List D) : noL (.tup xs) = noLs xs := id rfl
@[simp] theorem noL_fl (xs : List D) : noL (.fl xs) = false := id rfl
@[simp] theorem noL_ref (xs : Nat) : noL (.ref xs) = false := id rfl
@[simp] theorem frzL_nil (n : Nat) (h : Hpp) (k : Nat) : frzL n h k [] = [] := by simp only [frzL]
@[simp] theorem frzL_cons (n : Nat) (h : Hpp) (k : Nat) (x : D) (r : List D) : frzL n h k (x :: r) = frz n h k x :: frzL n h k r := by simp only [frzL]
@[simp] theorem frz_tup (n : Nat) (h : Hpp) (k : Nat) (xs : List D) : frz n h (k + 1) (.tup xs) = .tup (frzL n h k xs) := by simp only [frz]
@[simp] theorem frz_fl (n : Nat) (h : Hpp) (k : Nat) (xs : List D) : frz n h (k + 1) (.fl xs) = .fl (frzL n h k xs) := by simp only [frz]
@[simp] theorem pureD_non : pureD D.non = true := id rfl
@[simp] theorem noL_non : noL D.non = true := id rfl
@[simp] theorem res_non (h : Hpp) : res D.non h = D.non := id rfl
@[simp] theorem frz_non (n : Nat) (h : Hpp) (k : Nat) : frz n h k D.non = D.non := by cases k <;> simp [frz]
@[simp] theorem pureD_bl (b : Bool) : pureD (D.bl b) = true := id rfl
@[simp] theorem noL_bl (b : Bool) : noL (D.bl b) = true := id rfl
@[simp] theorem res_bl (b : Bool) (h : Hpp) : res (D.bl b) h = (D.bl b) := id rfl
@[simp] theorem frz_bl (b : Bool) (n : Nat) (h : Hpp) (k : Nat) : frz n h k (D.bl b) = (D.bl b) := by cases k <;> simp [frz]
@[simp] theorem pureD_int (i : Int) : pureD (D.int i) = true := id rfl
@[simp] theorem noL_int (i : Int) : noL (D.int i) = true := id rfl
@[simp] theorem res_int (i : Int) (h : Hpp) : res (D.int i) h = (D.int i) := id rfl
@[simp] theorem frz_int (i : Int) (n : Nat) (h : Hpp) (k : Nat) : frz n h k (D.int i) = (D.int i) := by cases k <;> simp [frz]
@[simp] theorem pureD_str (s : Str) : pureD (D.str s) = true := id rfl
@[simp] theorem noL_str (s : Str) : noL (D.str s) = true := id rfl
@[simp] theorem res_str (s : Str) (h : Hpp) : res (D.str s) h = (D.str s) := id rfl
@[simp] theorem frz_str (s : Str) (n : Nat) (h : Hpp) (k : Nat) : frz n h k (D.str s) = (D.str s) := by cases k <;> simp [frz]
@[simp] theorem pureD_fn (f : Nat) : pureD (D.fn f) = true := id rfl
@[simp] theorem noL_fn (f : Nat) : noL (D.fn f) = true := id rfl
@[simp] theorem res_fn (f : Nat) (h : Hpp) : res (D.fn f) h = (D.fn f) := id rfl
@[simp] theorem frz_fn (f : Nat) (n : Nat) (h : Hpp) (k : Nat) : frz n h k (D.fn f) = (D.fn f) := by cases k <;> simp [frz]
@[simp] theorem res_tup (xs : List D) (h : Hpp) : res (D.tup xs) h = D.tup xs := id rfl
@[simp] theorem res_fl (xs : List D) (h : Hpp) : res (D.fl xs) h = D.fl xs := id rfl
end PL
end
section
set_option Elab.async false
set_option linter.all false
set_option maxRecDepth 100000
/-! PLR: numbers: how large; fractions as values. -/
namespace PL
/-- fewer than e binary digits -/
def Bd (e : Nat) (x : Int) : Prop := x.natAbs < 2 ^ e
theorem Bd.mono {e f : Nat} {x : Int} (h : Bd e x) (l : e ≤ f) : Bd f x := Nat.lt_of_lt_of_le h (Nat.pow_le_pow_right (by decide) l)
theorem Bd.neg {e : Nat} {x : Int} (h : Bd e x) : Bd e (-x) := by
  unfold Bd at *; rw [Int.natAbs_neg]; exact h
theorem Bd.mul {e f : Nat} {x y : Int} (h : Bd e x) (g : Bd f y) : Bd (e + f) (x * y) := by
  unfold Bd at *
  rw [Int.natAbs_mul, Nat.pow_add]
  exact Nat.mul_lt_mul'' h g
theorem Bd.add {e : Nat} {x y : Int} (h : Bd e x) (g : Bd e y) : Bd (e + 1) (x + y) := by
  unfold Bd at *
  have := Int.natAbs_add_le x y
  rw [Nat.pow_succ]; omega
theorem Bd.sub {e : Nat} {x y : Int} (h : Bd e x) (g : Bd e y) : Bd (e + 1) (x - y) := by
  rw [Int.sub_eq_add_neg]; exact h.add g.neg
theorem Bd.le {e : Nat} {x y : Int} (h : Bd e x) (l : y.natAbs ≤ x.natAbs) : Bd e y := Nat.lt_of_le_of_lt l h
theorem Bd.log {e : Nat} {x : Int} (h : Bd e x) : x.natAbs.log2 ≤ e := by
  unfold Bd at h
  by_cases h0 : x.natAbs = 0
  · rw [h0]; simp
  · exact Nat.le_of_lt ((Nat.log2_lt h0).mpr h)
theorem Bd.mulOk {e f : Nat} {x y : Int} (h : Bd e x) (g : Bd f y) (l : e + f < 1000000) : mulOk x y = true := by
  unfold PL.mulOk
  rw [Bool.or_eq_true]
  right
  have := h.log
  have := g.log
  exact decide_eq_true (by omega)
theorem Bd.divOk {e : Nat} {x : Int} (h : Bd e x) (n : x ≠ 0) (l : e < 9000) : divOk x = true := by
  unfold PL.divOk
  rw [Bool.and_eq_true]
  have := h.log
  exact ⟨decide_eq_true n, decide_eq_true (by omega)⟩
theorem mulOk_small {x y : Int} (h : y.natAbs < 2 ^ 64) : mulOk x y = true := by
  unfold PL.mulOk
  rw [Bool.or_eq_true, Bool.or_eq_true]
  exact .inl (.inr (decide_eq_true h))
/-- a fraction as the program holds it -/
def rv (q : Rat) : D := .tup [.int q.num, .int (q.den : Int)]
theorem rv_pure (q : Rat) : pureD (rv q) = true := rfl
/-- q is n over m -/
def Is (q : Rat) (n m : Int) : Prop := m ≠ 0 ∧ q = Rat.divInt n m
theorem Is.self (q : Rat) : Is q q.num q.den := ⟨by have := q.den_nz; omega, (Rat.num_divInt_den q).symm⟩
theorem Is.cross {q : Rat} {n m : Int} (h : Is q n m) : q.num * m = n * q.den := by
  obtain ⟨hm, e⟩ := h
  have hd : (q.den : Int) ≠ 0 := by have := q.den_nz; omega
  have e2 : Rat.divInt q.num q.den = Rat.divInt n m := by rw [Rat.num_divInt_den]; exact e
  exact (Rat.divInt_eq_divInt_iff hd hm).mp e2
theorem Is.of {q : Rat} {n m : Int} (hm : m ≠ 0) (h : q.num * m = n * q.den) : Is q n m := by
  have hd : (q.den : Int) ≠ 0 := by have := q.den_nz; omega
  refine ⟨hm, ?_⟩
  rw [← Rat.num_divInt_den q]
  exact (Rat.divInt_eq_divInt_iff hd hm).mpr h
theorem Is.add {q p : Rat} {n m a b : Int} (h : Is q n m) (g : Is p a b) : Is (q + p) (n * b + a * m) (m * b) := by
  obtain ⟨h1, rfl⟩ := h
  obtain ⟨g1, rfl⟩ := g
  exact ⟨Int.mul_ne_zero h1 g1, Rat.divInt_add_divInt n a h1 g1⟩
theorem Is.sub {q p : Rat} {n m a b : Int} (h : Is q n m) (g : Is p a b) : Is (q - p) (n * b - a * m) (m * b) := by
  obtain ⟨h1, rfl⟩ := h
  obtain ⟨g1, rfl⟩ := g
  exact ⟨Int.mul_ne_zero h1 g1, Rat.divInt_sub_divInt n a h1 g1⟩
theorem Is.mul {q p : Rat} {n m a b : Int} (h : Is q n m) (g : Is p a b) : Is (q * p) (n * a) (m * b) := by
  obtain ⟨h1, rfl⟩ := h
  obtain ⟨g1, rfl⟩ := g
  exact ⟨Int.mul_ne_zero h1 g1, Rat.divInt_mul_divInt n a⟩
theorem Is.inv {q : Rat} {n m : Int} (h : Is q n m) (hn : n ≠ 0) : Is q⁻¹ m n := by
  obtain ⟨h1, rfl⟩ := h
  exact ⟨hn, Rat.inv_divInt n m⟩
theorem Is.div {q p : Rat} {n m a b : Int} (h : Is q n m) (g : Is p a b) (ha : a ≠ 0) : Is (q / p) (n * b) (m * a) := by
  rw [Rat.div_def]
  exact h.mul (g.inv ha)
theorem Is.num_le {q : Rat} {n m : Int} (h : Is q n m) : q.num.natAbs ≤ n.natAbs := by
  obtain ⟨hm, rfl⟩ := h
  rw [Rat.num_divInt]
  rw [Int.natAbs_ediv_of_dvd]
  · refine Nat.le_trans (Nat.div_le_self _ _) ?_
    rw [Int.natAbs_mul]
    have : m.sign.natAbs ≤ 1 := by
      rw [Int.natAbs_sign]; split <;> omega
    calc m.sign.natAbs * n.natAbs ≤ 1 * n.natAbs := Nat.mul_le_mul_right _ this
      _ = n.natAbs := Nat.one_mul _
  · exact Int.dvd_mul_of_dvd_right (Int.gcd_dvd_right ..)
theorem Is.den_le {q : Rat} {n m : Int} (h : Is q n m) : q.den ≤ m.natAbs := by
  obtain ⟨hm, rfl⟩ := h
  rw [Rat.den_divInt, if_neg hm]
  exact Nat.div_le_self _ _
theorem Is.bd {q : Rat} {n m : Int} {e f : Nat} (h : Is q n m) (hn : Bd e n) (hm : Bd f m) : Bd e q.num ∧ Bd f q.den := ⟨hn.le h.num_le, hm.le (by have := h.den_le; omega)⟩
/-- what make does: the parts over their divisor, the lower one's sign -/
theorem make_num {n m : Int} (hm : m ≠ 0) : (Rat.divInt n m).num = n.fdiv (if m < 0 then -(Int.gcd n m : Int) else Int.gcd n m) ∧ ((Rat.divInt n m).den : Int) = m.fdiv (if m < 0 then -(Int.gcd n m : Int) else Int.gcd n m) := by
  have g1 : (Int.gcd n m : Int) ∣ n := Int.gcd_dvd_left ..
  have g2 : (Int.gcd n m : Int) ∣ m := Int.gcd_dvd_right ..
  have g0 : 0 < (Int.gcd n m : Int) := by
    have : 0 < Int.gcd n m := Int.gcd_pos_of_ne_zero_right _ hm
    omega
  obtain ⟨a, ea⟩ := g1
  obtain ⟨b, eb⟩ := g2
  have hN : ((m.natAbs / Int.gcd m n : Nat) : Int) = (m.natAbs : Int) / (Int.gcd n m : Int) := by
    rw [Int.gcd_comm m n]; rfl
  rw [Rat.num_divInt, Rat.den_divInt, if_neg hm, hN, Int.gcd_comm m n]
  generalize (Int.gcd n m : Int) = g at *
  have gz : g ≠ 0 := by omega
  have ngz : -g ≠ 0 := by omega
  by_cases s : m < 0
  · rw [if_pos s, Int.sign_eq_neg_one_of_neg s]
    have e1 : n = -g * -a := by rw [Int.neg_mul_neg]; exact ea
    have e2 : m = -g * -b := by rw [Int.neg_mul_neg]; exact eb
    have e3 : (m.natAbs : Int) = g * -b := by
      rw [Int.ofNat_natAbs_of_nonpos (by omega), eb, Int.mul_neg]
    constructor
    · rw [show (-1 : Int) * n = g * -a by rw [ea, Int.mul_neg, Int.neg_one_mul], Int.mul_ediv_cancel_left _ gz]
      conv => rhs; rw [e1]
      rw [Int.mul_fdiv_cancel_left _ ngz]
    · rw [e3, Int.mul_ediv_cancel_left _ gz]
      conv => rhs; rw [e2]
      rw [Int.mul_fdiv_cancel_left _ ngz]
  · rw [if_neg s, Int.sign_eq_one_of_pos (by omega), Int.one_mul]
    have e3 : (m.natAbs : Int) = m := Int.natAbs_of_nonneg (by omega)
    rw [e3]
    constructor
    · rw [ea, Int.mul_ediv_cancel_left _ gz, Int.mul_fdiv_cancel_left _ gz]
    · rw [eb, Int.mul_ediv_cancel_left _ gz, Int.mul_fdiv_cancel_left _ gz]
theorem sq_pow (x : Rat) : ∀ m : Nat, (x * x) ^ m = x ^ (2 * m)
  | 0 => by simp
  | m + 1 => by
    rw [Rat.pow_succ, sq_pow x m, show 2 * (m + 1) = 2 * m + 1 + 1 by omega, Rat.pow_succ, Rat.pow_succ, Rat.mul_assoc]
/-- a fraction of not too many digits -/
def Sm (e : Nat) (q : Rat) : Prop := Bd e q.num ∧ Bd e q.den
theorem Sm.mono {e f : Nat} {q : Rat} (h : Sm e q) (l : e ≤ f) : Sm f q := ⟨h.1.mono l, h.2.mono l⟩
theorem Is.sm {q : Rat} {n m : Int} {e : Nat} (h : Is q n m) (hn : Bd e n) (hm : Bd e m) : Sm e q := h.bd hn hm
theorem Sm.mul {e f : Nat} {q p : Rat} (h : Sm e q) (g : Sm f p) : Sm (e + f) (q * p) := ((Is.self q).mul (Is.self p)).sm (h.1.mul g.1) (h.2.mul g.2)
theorem Sm.add {e f : Nat} {q p : Rat} (h : Sm e q) (g : Sm f p) : Sm (e + f + 1) (q + p) :=
  ((Is.self q).add (Is.self p)).sm ((h.1.mul g.2).add (((g.1.mul h.2)).mono (Nat.le_of_eq (Nat.add_comm f e)))) ((h.2.mul g.2).mono (Nat.le_succ _))
theorem Sm.inv {e : Nat} {q : Rat} (h : Sm e q) (n : q ≠ 0) : Sm e q⁻¹ := ((Is.self q).inv (fun z => n (Rat.num_eq_zero.mp z))).sm h.2 h.1
theorem Sm.one : Sm 1 1 := ⟨by unfold Bd; decide, by unfold Bd; decide⟩
theorem Sm.zero : Sm 1 0 := ⟨by unfold Bd; decide, by unfold Bd; decide⟩
theorem pow_step (f x : Rat) (e : Nat) : (if e % 2 = 1 then f * x else f) * (x * x) ^ (e / 2) = f * x ^ e := by
  rw [sq_pow]
  by_cases h : e % 2 = 1
  · rw [if_pos h]
    have : e = 2 * (e / 2) + 1 := by omega
    conv => rhs; rw [this, Rat.pow_succ]
    rw [Rat.mul_assoc, Rat.mul_comm x]
  · rw [if_neg h]
    have : e = 2 * (e / 2) := by omega
    conv => rhs; rw [this]
theorem Bd.pow {b : Nat} {n : Int} (h : Bd b n) : ∀ e : Nat, Bd (b * e + 1) (n ^ e)
  | 0 => by unfold Bd; simp
  | e + 1 => by
    rw [Int.pow_succ]
    exact ((Bd.pow h e).mul h).mono (by rw [Nat.mul_succ]; omega)
theorem Is.pow {q : Rat} {n m : Int} (h : Is q n m) : ∀ e : Nat, Is (q ^ e) (n ^ e) (m ^ e)
  | 0 => ⟨by simp, by simp; rfl⟩
  | e + 1 => by
    rw [Rat.pow_succ, Int.pow_succ, Int.pow_succ]
    exact (Is.pow h e).mul h
@[simp] theorem res_rv (q : Rat) (h : Hpp) : res (rv q) h = rv q := id rfl
@[simp] theorem pureD_rv (q : Rat) : pureD (rv q) = true := id rfl
@[simp] theorem noL_rv (q : Rat) : noL (rv q) = true := id rfl
@[simp] theorem frz_rv (n k : Nat) (h : Hpp) (q : Rat) : frz n h (k + 2) (rv q) = rv q := by simp [rv, frz, frzL]
@[simp] theorem item_rv0 (q : Rat) (h : Hpp) : item (rv q) (.int 0) h = some (.int q.num) := by simp [rv]
@[simp] theorem item_rv1 (q : Rat) (h : Hpp) : item (rv q) (.int 1) h = some (.int q.den) := by simp [rv]
theorem rv1 : rv 1 = .tup [.int 1, .int 1] := rfl
theorem rv0 : rv 0 = .tup [.int 0, .int 1] := rfl
end PL
end
section
set_option Elab.async false
set_option linter.all false
set_option maxRecDepth 100000
/-! PLT: calls, loops, comprehensions over typed rows; fractions and None as values. -/
namespace PL
/-! ### pure values -/
mutual
theorem pu_frz (n : Nat) (h : Hpp) : ∀ (k : Nat) (d : D), pureD d = true → frz n h k d = d
  | 0, d, p => by cases d <;> simp [frz]
  | k + 1, .tup xs, p => by rw [frz, pu_frzL n h k xs (by simpa [pureD] using p)]
  | k + 1, .fl xs, p => by rw [frz, pu_frzL n h k xs (by simpa [pureD] using p)]
  | k + 1, .ref _, p => by simp [pureD] at p
  | k + 1, .non, _ => by simp [frz]
  | k + 1, .bl _, _ => by simp [frz]
  | k + 1, .int _, _ => by simp [frz]
  | k + 1, .str _, _ => by simp [frz]
  | k + 1, .fn _, _ => by simp [frz]
  | k + 1, .sc _, _ => by simp [frz]
theorem pu_frzL (n : Nat) (h : Hpp) : ∀ (k : Nat) (ds : List D), pureL ds = true → frzL n h k ds = ds
  | _, [], _ => by simp [frzL]
  | k, x :: xs, p => by
    rw [pureL, Bool.and_eq_true] at p
    rw [frzL, pu_frz n h k x p.1, pu_frzL n h k xs p.2]
end
theorem pu_res {d : D} (h : Hpp) (p : pureD d = true) : res d h = d := by
  cases d <;> first | rfl | simp [pureD] at p
theorem pu_resL {ds : List D} (h : Hpp) (p : pureL ds = true) : (ds.map fun d => res d h) = ds := by
  induction ds with
  | nil => rfl
  | cons x xs ih =>
    rw [pureL, Bool.and_eq_true] at p
    rw [List.map_cons, pu_res h p.1, ih p.2]
theorem pureL_map {α : Type} (f : α → D) (hf : ∀ a, pureD (f a) = true) : ∀ l : List α, pureL (l.map f) = true
  | [] => rfl
  | a :: l => by rw [List.map_cons, pureL, hf a, pureL_map f hf l]; rfl
theorem pureL_append : ∀ (xs ys : List D), pureL (xs ++ ys) = (pureL xs && pureL ys)
  | [], ys => by simp
  | x :: xs, ys => by simp [pureL_append xs ys, Bool.and_assoc]
theorem pureL_rep (d : D) (hd : pureD d = true) : ∀ n, pureL (List.replicate n d) = true
  | 0 => rfl
  | n + 1 => by rw [List.replicate_succ, pureL, hd, pureL_rep d hd n]; rfl
theorem pureL_iff : ∀ xs : List D, pureL xs = true ↔ ∀ x ∈ xs, pureD x = true
  | [] => by simp
  | x :: xs => by simp [pureL_iff xs]
/-! ### calls -/
/-- a pure def's end -/
def end0 (h : Hpp) (o : O) : R D := fin0 true h o
theorem call0 {fns : List Fn} {f : Nat} {fn : Fn} (k : Nat) (ds : List D) (h : Hpp) (e : fns[f]? = some fn) (m : fn.mode = 0) (l : ds.length = fn.np) (p : pureL ds = true) :
    callF fns (k + 1) f ds h = end0 h (exs (callF fns k) fn.body (env0 fn ds) []) := by
  rw [callF_some k ds h e]
  unfold runFn end0
  rw [if_pos l, m]
  simp only [pu_resL h p, p, if_true]
theorem call2 {fns : List Fn} {f : Nat} {fn : Fn} (k : Nat) (ds : List D) (h : Hpp) (e : fns[f]? = some fn) (m : fn.mode = 2) (l : ds.length = fn.np) :
    callF fns (k + 1) f ds h = fin2 (exs (callF fns k) fn.body (env0 fn ds) h) := by
  rw [callF_some k ds h e]
  unfold runFn
  rw [if_pos l, m]
  rfl
theorem end0_rt (h h' : Hpp) {d : D} (p : pureD d = true) : end0 h (.rt d h') = .ok d h := by
  unfold end0 fin0
  simp only [pu_frz 0 h' 9 d p, p, Bool.and_self, Bool.true_or, if_true]
@[simp] theorem end0_nx (h h' : Hpp) (ρ : Env) : end0 h (.nx ρ h') = .ok .non h := id rfl
@[simp] theorem end0_er (h h' : Hpp) (ρ : Env) (c : Nat) : end0 h (.er c ρ h') = .er c h := id rfl
theorem end0_ref (h h' : Hpp) {n : Nat} {xs : List D} (e : h'[n]? = some (.lst xs)) (p : pureL xs = true) : end0 h (.rt (.ref n) h') = .ok (.fl xs) h := by
  unfold end0 fin0
  have : frz 0 h' 9 (.ref n) = .fl xs := by
    rw [frz, if_neg (Nat.not_lt_zero n), e]
    simp only [pu_frzL 0 h' 8 xs p]
  simp only [this, pureD_fl, p, Bool.and_self, Bool.true_or, if_true]
@[simp] theorem fin2_rt (d : D) (h : Hpp) : fin2 (.rt d h) = .ok d h := id rfl
@[simp] theorem fin2_nx (ρ : Env) (h : Hpp) : fin2 (.nx ρ h) = .ok .non h := id rfl
@[simp] theorem fin2_er (c : Nat) (ρ : Env) (h : Hpp) : fin2 (.er c ρ h) = .er c h := id rfl
def varR (o : Option (Option D)) (h : Hpp) : R D := match o with
  | some (some d) => .ok d h
  | _ => .no
@[simp] theorem varR_some (d : D) (h : Hpp) : varR (some (some d)) h = .ok d h := id rfl
theorem ev_varR (cal : Cal) (i : Nat) (ρ : Env) (h : Hpp) : ev cal (.var i) ρ h = varR ρ[i]? h := by simp only [ev]; rfl
def callvR (o : Option (Option D)) (g : Nat → R D) : R D := match o with
  | some (some (.fn f)) => g f
  | _ => .no
@[simp] theorem callvR_some (f : Nat) (g : Nat → R D) : callvR (some (some (.fn f))) g = g f := id rfl
theorem ev_callvR (cal : Cal) (i : Nat) (es : Es) (ρ : Env) (h : Hpp) : ev cal (.callv i es) ρ h = callvR ρ[i]? fun f => (evs cal es ρ h).bind fun ds h => cal f ds h := by
  simp only [ev]
  unfold callvR
  rfl
def augR (o : Option (Option D)) (g : Int → O) : O := match o with
  | some (some (.int x)) => g x
  | _ => .no
@[simp] theorem augR_some (x : Int) (g : Int → O) : augR (some (some (.int x))) g = g x := id rfl
theorem ex_augR {cal : Cal} {i : Nat} {op : Bop} {e : E} {ρ : Env} {h : Hpp} {x : Int} (q : ρ[i]? = some (some (.int x))) : ex cal (.aug i op e) ρ h = andThen (ev cal e ρ h) ρ fun y h => augI x y op i ρ h := ex_aug cal i op e ρ h x q
/-! ### for loops over a typed row -/
/-- a turn that goes on -/
def Goes (o : O) (ρ : Env) (h : Hpp) : Prop := o = .nx ρ h ∨ o = .ct ρ h
theorem forr_ind {α : Type} {cal : Cal} {tg : Tg} {b : Ss} (hl : List (Nat × Cell)) (en : α → D) (xs : List α) (J : List α → Env → Hpp → Prop)
    (ok : ∀ pre ρ h, J pre ρ h → okH hl h = true)
    (st : ∀ pre x post ρ h, xs = pre ++ x :: post → J pre ρ h → ∃ ρ1 ρ2 h2, sto tg ρ (en x) = some ρ1 ∧ Goes (exs cal b ρ1 h) ρ2 h2 ∧ J (pre ++ [x]) ρ2 h2) :
    ∀ (post pre : List α) (ρ : Env) (h : Hpp), xs = pre ++ post → J pre ρ h → ∃ ρ' h', forr cal tg b hl (post.map en) ρ h = .nx ρ' h' ∧ J xs ρ' h'
  | [], pre, ρ, h, e, j => by
    rw [List.append_nil] at e
    subst e
    exact ⟨ρ, h, by rw [List.map_nil, forr_nil, if_pos (ok _ _ _ j)], j⟩
  | x :: post, pre, ρ, h, e, j => by
    obtain ⟨ρ1, ρ2, h2, e1, e2, j2⟩ := st pre x post ρ h e j
    obtain ⟨ρ', h', e3, j3⟩ := forr_ind hl en xs J ok st post (pre ++ [x]) ρ2 h2 (by rw [e, List.append_assoc]; rfl) j2
    refine ⟨ρ', h', ?_, j3⟩
    rw [List.map_cons, forr_cons _ _ _ _ _ _ _ _ _ (ok _ _ _ j) e1]
    rcases e2 with e2 | e2 <;> rw [e2] <;> exact e3
/-- from the first item on -/
theorem forr_all {α : Type} {cal : Cal} {tg : Tg} {b : Ss} (hl : List (Nat × Cell)) (en : α → D) (xs : List α) (J : List α → Env → Hpp → Prop) {ρ : Env} {h : Hpp}
    (ok : ∀ pre ρ h, J pre ρ h → okH hl h = true) (j0 : J [] ρ h)
    (st : ∀ pre x post ρ h, xs = pre ++ x :: post → J pre ρ h → ∃ ρ1 ρ2 h2, sto tg ρ (en x) = some ρ1 ∧ Goes (exs cal b ρ1 h) ρ2 h2 ∧ J (pre ++ [x]) ρ2 h2) :
    ∃ ρ' h', forr cal tg b hl (xs.map en) ρ h = .nx ρ' h' ∧ J xs ρ' h' := forr_ind hl en xs J ok st xs [] ρ h rfl j0
/-- a fold, the state in the slots; b's of the slots are free -/
theorem forr_fold {α σ : Type} {cal : Cal} {tg : Tg} {b : Ss} (en : α → D) (f : σ → α → σ) (Z : σ → Env → Prop) (h : Hpp) :
    ∀ (xs : List α) (s : σ) (ρ : Env), Z s ρ →
    (∀ pre x post ρ, xs = pre ++ x :: post → Z (pre.foldl f s) ρ → ∃ ρ1 ρ2, sto tg ρ (en x) = some ρ1 ∧ Goes (exs cal b ρ1 h) ρ2 h ∧ Z (f (pre.foldl f s) x) ρ2) →
    ∃ ρ', forr cal tg b [] (xs.map en) ρ h = .nx ρ' h ∧ Z (xs.foldl f s) ρ' := fun xs s ρ z st => by
  obtain ⟨ρ', h', e, rfl, j⟩ := forr_all (cal := cal) (tg := tg) (b := b) [] en xs (fun pre ρ h' => h' = h ∧ Z (pre.foldl f s) ρ) (fun _ _ _ _ => rfl) ⟨rfl, z⟩ (fun pre x post ρ h' e ⟨eh, z⟩ => by
    subst eh
    obtain ⟨ρ1, ρ2, a, b, c⟩ := st pre x post ρ e z
    exact ⟨ρ1, ρ2, h', a, b, rfl, by rw [List.foldl_append]; exact c⟩)
  exact ⟨ρ', e, j⟩
/-- tests, one by one: the first that fails ends the def -/
theorem forr_test {α : Type} {cal : Cal} {tg : Tg} {b : Ss} (hl : List (Nat × Cell)) (en : α → D) (p : α → Bool) (d : D) (Z : Env → Prop) (h : Hpp) (ok : okH hl h = true) :
    ∀ (xs : List α) (ρ : Env), Z ρ →
    (∀ x ∈ xs, ∀ ρ, Z ρ → ∃ ρ1, sto tg ρ (en x) = some ρ1 ∧ (if p x = true then ∃ ρ2, Goes (exs cal b ρ1 h) ρ2 h ∧ Z ρ2 else exs cal b ρ1 h = .rt d h)) →
    if xs.all p = true then ∃ ρ', forr cal tg b hl (xs.map en) ρ h = .nx ρ' h ∧ Z ρ' else forr cal tg b hl (xs.map en) ρ h = .rt d h
  | [], ρ, z, _ => by
    simp only [List.all_nil, if_true]
    exact ⟨ρ, by rw [List.map_nil, forr_nil, if_pos ok], z⟩
  | x :: xs, ρ, z, st => by
    obtain ⟨ρ1, e1, e2⟩ := st x List.mem_cons_self ρ z
    rw [List.map_cons, forr_cons _ _ _ _ _ _ _ _ _ ok e1, List.all_cons]
    by_cases hp : p x = true
    · rw [if_pos hp] at e2
      obtain ⟨ρ2, e3, z2⟩ := e2
      have ih := forr_test hl en p d Z h ok xs ρ2 z2 fun y hy => st y (List.mem_cons_of_mem _ hy)
      rw [hp, Bool.true_and]
      rcases e3 with e3 | e3 <;> rw [e3] <;> exact ih
    · rw [if_neg hp] at e2
      rw [e2]
      have : (p x && xs.all p) = false := by simp [hp]
      rw [this, if_neg (by decide)]
      rfl
/-! ### comprehensions over a typed row -/
theorem cmp1_m {α β : Type} {cal : Cal} {elt : E} {tg : Tg} {hl : List (Nat × Cell)} {ρ : Env} {h : Hpp} (en : α → D) (g : α → D) (ok : okH hl h = true) : ∀ xs : List α,
    (∀ x ∈ xs, ∃ ρ1, sto tg ρ (en x) = some ρ1 ∧ ev cal elt ρ1 h = .ok (g x) h) → cmp1 cal elt tg .nil hl (xs.map en) ρ h = .ok (xs.map g) h
  | [], _ => by rw [List.map_nil, cmp1_nil, if_pos ok]; rfl
  | x :: xs, q => by
    obtain ⟨ρ1, e1, e2⟩ := q x List.mem_cons_self
    rw [List.map_cons, cmp1_cons cal elt tg .nil hl _ _ ρ ρ1 h ok e1]
    simp only [evc_nil, R.bind_ok, if_true, e2]
    rw [cmp1_m (β := β) en g ok xs fun y hy => q y (List.mem_cons_of_mem _ hy)]
    rfl
theorem cmp1_f {α : Type} {cal : Cal} {elt : E} {tg : Tg} {cs : Es} {hl : List (Nat × Cell)} {ρ : Env} {h : Hpp} (en : α → D) (p : α → Bool) (g : α → D) (ok : okH hl h = true) : ∀ xs : List α,
    (∀ x ∈ xs, ∃ ρ1, sto tg ρ (en x) = some ρ1 ∧ evc cal cs ρ1 h = .ok (p x) h ∧ (p x = true → ev cal elt ρ1 h = .ok (g x) h)) → cmp1 cal elt tg cs hl (xs.map en) ρ h = .ok ((xs.filter p).map g) h
  | [], _ => by rw [List.map_nil, cmp1_nil, if_pos ok]; rfl
  | x :: xs, q => by
    obtain ⟨ρ1, e1, e2, e3⟩ := q x List.mem_cons_self
    have ih := cmp1_f en p g ok xs fun y hy => q y (List.mem_cons_of_mem _ hy)
    rw [List.map_cons, cmp1_cons cal elt tg cs hl _ _ ρ ρ1 h ok e1, e2]
    cases hp : p x with
    | true =>
      simp only [R.bind_ok, if_true, e3 hp, ih, List.filter_cons, hp]
      rfl
    | false =>
      simp only [R.bind_ok, ih, List.filter_cons, hp]
      rfl
/-- the state goes on from item to item; each result keeps P -/
theorem cmp1_st {α β τ : Type} {cal : Cal} {elt : E} {tg : Tg} {ρ : Env} (en : α → D) (g : β → D) (T : τ → Hpp) (P : β → Prop) : ∀ (xs : List α) (t : τ),
    (∀ x ∈ xs, ∀ t, ∃ (ρ1 : Env) (y : β) (t' : τ), sto tg ρ (en x) = some ρ1 ∧ P y ∧ ev cal elt ρ1 (T t) = .ok (g y) (T t')) → ∃ (ys : List β) (t' : τ), cmp1 cal elt tg .nil [] (xs.map en) ρ (T t) = .ok (ys.map g) (T t') ∧ ys.length = xs.length ∧ ∀ y ∈ ys, P y
  | [], t, _ => ⟨[], t, by rw [List.map_nil, cmp1_nil, if_pos (okH_nil _)]; rfl, rfl, by simp⟩
  | x :: xs, t, q => by
    obtain ⟨ρ1, y, t1, e1, p1, e2⟩ := q x List.mem_cons_self t
    obtain ⟨ys, t2, e3, l, p2⟩ := cmp1_st en g T P xs t1 fun y hy => q y (List.mem_cons_of_mem _ hy)
    refine ⟨y :: ys, t2, ?_, by rw [List.length_cons, List.length_cons, l], fun z hz => ?_⟩
    · rw [List.map_cons, cmp1_cons cal elt tg .nil [] _ _ ρ ρ1 _ rfl e1]
      simp only [evc_nil, R.bind_ok, if_true, e2, e3]
      rfl
    · rcases List.mem_cons.mp hz with rfl | hz
      · exact p1
      · exact p2 z hz
theorem rangeL_map (n : Nat) : rangeL 0 n 1 = (List.range n).map fun (i : Nat) => D.int i := by
  unfold rangeL
  apply List.map_congr_left
  intro i _
  simp
theorem src_range0 (n : Nat) (hn : n ≤ 16000000) (h : Hpp) : srcRange 0 (n : Int) h = .ok ⟨(List.range n).map fun (i : Nat) => D.int i, []⟩ h := by
  rw [range0 (by omega) (by omega), ← rangeL_map]
  rfl
theorem enumL_map {α : Type} (f : α → D) : ∀ (xs : List α) (k : Nat), enumL k (xs.map f) = (xs.zipIdx k).map fun p => D.tup [.int p.2, f p.1]
  | [], _ => rfl
  | x :: xs, k => by rw [List.map_cons, enumL, List.zipIdx_cons, List.map_cons, enumL_map f xs (k + 1)]
theorem zipL_map {α β : Type} (f : α → D) (g : β → D) : ∀ (xs : List α) (ys : List β), zipL (xs.map f) (ys.map g) = (xs.zip ys).map fun p => D.tup [f p.1, g p.2]
  | [], ys => by simp [zipL]
  | _ :: _, [] => by simp [zipL]
  | x :: xs, y :: ys => by rw [List.map_cons, List.map_cons, zipL, List.zip_cons_cons, List.map_cons, zipL_map f g xs ys]
/-! ### indices, slices -/
theorem atI_map {α : Type} (f : α → D) (xs : List α) (i : Int) : atI (xs.map f) i = (atI xs i).map f := by
  unfold atI
  rw [List.length_map]
  cases ixN xs.length i with
  | none => rfl
  | some j => simp
theorem atI_nat {α : Type} (xs : List α) (i : Nat) : atI xs (i : Int) = xs[i]? := by
  unfold atI ixN
  by_cases h : i < xs.length
  · have : (i : Int) < (xs.length : Int) := by omega
    simp [this]
  · have : ¬ (i : Int) < (xs.length : Int) := by omega
    simp [this]
    omega
theorem atI_neg1 {α : Type} (xs : List α) : atI xs (-1) = xs[xs.length - 1]? := by
  unfold atI ixN
  cases xs with
  | nil => simp
  | cons x xs =>
    have h1 : ¬ ((0 : Int) ≤ -1) := by decide
    have h2 : -(((x :: xs).length : Nat) : Int) ≤ -1 := by simp; omega
    rw [if_neg h1, if_pos h2]
    have : (-1 + (((x :: xs).length : Nat) : Int)).toNat = (x :: xs).length - 1 := by omega
    rw [this]
theorem atI_neg {α : Type} (xs : List α) (k : Nat) (h0 : 0 < k) (h1 : k ≤ xs.length) : atI xs (-(k : Int)) = xs[xs.length - k]? := by
  unfold atI ixN
  rw [if_neg (by omega), if_pos (by omega)]
  have : (-(k : Int) + (xs.length : Int)).toNat = xs.length - k := by omega
  rw [this]
theorem item_fl (xs : List D) (i : Int) (h : Hpp) : item (.fl xs) (.int i) h = atI xs i := rfl
theorem item_tup (xs : List D) (i : Int) (h : Hpp) : item (.tup xs) (.int i) h = atI xs i := rfl
theorem clip_nat (n k : Nat) : clip n (k : Int) = min k n := by
  unfold clip
  rw [if_neg (by omega)]
  by_cases h : k < n
  · rw [if_pos (by omega)]; omega
  · rw [if_neg (by omega)]; omega
theorem cut_take {α : Type} (xs : List α) (k : Nat) : cut xs none (some (k : Int)) = xs.take k := by
  unfold cut
  simp only [clip_nat, List.drop_zero, Nat.sub_zero]
  by_cases h : k ≤ xs.length
  · rw [Nat.min_eq_left h]
  · rw [Nat.min_eq_right (by omega), List.take_of_length_le (Nat.le_refl _), List.take_of_length_le (by omega)]
theorem cut_drop {α : Type} (xs : List α) (k : Nat) : cut xs (some (k : Int)) none = xs.drop k := by
  unfold cut
  simp only [clip_nat]
  by_cases h : k ≤ xs.length
  · rw [Nat.min_eq_left h, List.take_of_length_le (by rw [List.length_drop]; exact Nat.le_refl _)]
  · rw [Nat.min_eq_right (by omega), List.drop_of_length_le (Nat.le_refl _), List.drop_of_length_le (by omega)]; simp
theorem cut_map {α : Type} (f : α → D) (xs : List α) (lo hi : Option Int) : cut (xs.map f) lo hi = (cut xs lo hi).map f := by
  unfold cut
  simp only [List.length_map, List.map_take, List.map_drop]
theorem slice_fl (th : Bool) (xs : List D) (lo hi : Option Int) (h : Hpp) : slice th (.fl xs) lo hi h = new th (cut xs lo hi) h := rfl
theorem slice_tup (th : Bool) (xs : List D) (lo hi : Option Int) (h : Hpp) : slice th (.tup xs) lo hi h = .ok (.tup (cut xs lo hi)) h := rfl
theorem bop_fl (xs ys : List D) (h : Hpp) (l : xs.length + ys.length ≤ line) : bop .add false (.fl xs) (.fl ys) h = .ok (.fl (xs ++ ys)) h := by
  show (if xs.length + ys.length ≤ line then new false (xs ++ ys) h else .no) = _
  rw [if_pos l]; rfl
theorem bop_tup (xs ys : List D) (h : Hpp) (l : xs.length + ys.length ≤ line) : bop .add false (.tup xs) (.tup ys) h = .ok (.tup (xs ++ ys)) h := by
  show (if xs.length + ys.length ≤ line then R.ok (D.tup (xs ++ ys)) h else .no) = _
  rw [if_pos l]
/-! ### equality -/
mutual
/-- no bools, no cells, no defs -/
def nb : D → Bool
  | .non => true
  | .bl _ => false
  | .int _ => true
  | .str _ => true
  | .tup xs => nbL xs
  | .fl xs => nbL xs
  | .ref _ => false
  | .fn _ => false
  | .sc _ => false
def nbL : List D → Bool
  | [] => true
  | x :: xs => nb x && nbL xs
end
mutual
theorem deq_nb : ∀ (x y : D), nb x = true → nb y = true → deq x y = decide (x = y)
  | .non, y, _, hy => by cases y <;> simp_all [deq, nb]
  | .bl _, y, hx, _ => by simp [nb] at hx
  | .int a, y, _, hy => by cases y <;> simp_all [deq, nb, Bool.beq_eq_decide_eq]
  | .str a, y, _, hy => by cases y <;> simp_all [deq, nb, Bool.beq_eq_decide_eq]
  | .tup xs, y, hx, hy => by
    cases y with
    | tup ys =>
      simp only [nb] at hx hy
      simp only [deq, deqL_nb xs ys hx hy, D.tup.injEq]
    | _ => simp_all [deq, nb]
  | .fl xs, y, hx, hy => by
    cases y with
    | fl ys =>
      simp only [nb] at hx hy
      simp only [deq, deqL_nb xs ys hx hy, D.fl.injEq]
    | _ => simp_all [deq, nb]
  | .ref _, y, hx, _ => by simp [nb] at hx
  | .fn _, y, hx, _ => by simp [nb] at hx
  | .sc _, y, hx, _ => by simp [nb] at hx
theorem deqL_nb : ∀ (x y : List D), nbL x = true → nbL y = true → deqL x y = decide (x = y)
  | [], [], _, _ => by simp [deqL]
  | [], _ :: _, _, _ => by simp [deqL]
  | _ :: _, [], _, _ => by simp [deqL]
  | x :: xs, y :: ys, hx, hy => by
    rw [nbL, Bool.and_eq_true] at hx hy
    rw [deqL, deq_nb x y hx.1 hy.1, deqL_nb xs ys hx.2 hy.2]
    simp
end
theorem nbL_map {α : Type} (f : α → D) (hf : ∀ a, nb (f a) = true) : ∀ l : List α, nbL (l.map f) = true
  | [] => rfl
  | a :: l => by rw [List.map_cons, nbL, hf a, nbL_map f hf l]; rfl
theorem fitL_map {α : Type} (k : Nat) (f : α → D) (hf : ∀ a, fit k (f a) = true) : ∀ l : List α, fitL k (l.map f) = true
  | [] => by simp [fitL]
  | a :: l => by rw [List.map_cons, fitL, hf a, fitL_map k f hf l]; rfl
mutual
theorem nb_pure : ∀ d : D, nb d = true → pureD d = true
  | .non, _ => rfl
  | .bl _, _ => rfl
  | .int _, _ => rfl
  | .str _, _ => rfl
  | .tup xs, h => by rw [pureD]; exact nbL_pure xs (by simpa [nb] using h)
  | .fl xs, h => by rw [pureD]; exact nbL_pure xs (by simpa [nb] using h)
  | .ref _, h => by simp [nb] at h
  | .fn _, _ => rfl
  | .sc _, _ => rfl
theorem nbL_pure : ∀ d : List D, nbL d = true → pureL d = true
  | [], _ => rfl
  | x :: xs, h => by
    rw [nbL, Bool.and_eq_true] at h
    rw [pureL, nb_pure x h.1, nbL_pure xs h.2]; rfl
end
theorem pyEq_nb (x y : D) (h : Hpp) (fx : fit 60 x = true) (fy : fit 60 y = true) (nx : nb x = true) (ny : nb y = true) : pyEq x y h = some (decide (x = y)) := by
  unfold pyEq
  rw [pu_res h (nb_pure x nx), pu_res h (nb_pure y ny), fx, fy, deq_nb x y nx ny]
  rfl
/-! ### values -/
abbrev Val := Option Rat
def ov : Val → D
  | none => .non
  | some q => rv q
@[simp] theorem ov_none : ov none = .non := id rfl
@[simp] theorem ov_some (q : Rat) : ov (some q) = rv q := id rfl
@[simp] theorem pureD_ov (v : Val) : pureD (ov v) = true := by cases v <;> rfl
@[simp] theorem nb_rv (q : Rat) : nb (rv q) = true := id rfl
@[simp] theorem nb_ov (v : Val) : nb (ov v) = true := by cases v <;> rfl
@[simp] theorem nb_int (i : Int) : nb (.int i) = true := id rfl
@[simp] theorem nb_non : nb .non = true := id rfl
@[simp] theorem nb_str (s : Str) : nb (.str s) = true := id rfl
@[simp] theorem nb_tup (xs : List D) : nb (.tup xs) = nbL xs := id rfl
@[simp] theorem nb_fl (xs : List D) : nb (.fl xs) = nbL xs := id rfl
@[simp] theorem nbL_nil : nbL [] = true := id rfl
@[simp] theorem nbL_cons (x : D) (xs : List D) : nbL (x :: xs) = (nb x && nbL xs) := id rfl
@[simp] theorem fit_rv (k : Nat) (q : Rat) : fit (k + 1) (rv q) = true := by simp [rv, fit, fitL]
@[simp] theorem fit_int (k : Nat) (i : Int) : fit k (.int i) = true := by cases k <;> simp [fit]
@[simp] theorem fit_non (k : Nat) : fit k .non = true := by cases k <;> simp [fit]
@[simp] theorem fit_bl (k : Nat) (b : Bool) : fit k (.bl b) = true := by cases k <;> simp [fit]
@[simp] theorem fit_ov (k : Nat) (v : Val) : fit (k + 1) (ov v) = true := by cases v <;> simp
@[simp] theorem fit_tup (k : Nat) (xs : List D) : fit (k + 1) (.tup xs) = fitL k xs := by simp [fit]
@[simp] theorem fit_fl (k : Nat) (xs : List D) : fit (k + 1) (.fl xs) = fitL k xs := by simp [fit]
@[simp] theorem fitL_nil (k : Nat) : fitL k [] = true := by simp [fitL]
@[simp] theorem fitL_cons (k : Nat) (x : D) (xs : List D) : fitL k (x :: xs) = (fit k x && fitL k xs) := by simp [fitL]
theorem rv_inj {q p : Rat} (h : rv q = rv p) : q = p := by
  simp only [rv, D.tup.injEq, List.cons.injEq, D.int.injEq, and_true] at h
  exact Rat.ext h.1 (by omega)
@[simp] theorem rv_eq (q p : Rat) : rv q = rv p ↔ q = p := ⟨rv_inj, fun h => by rw [h]⟩
theorem ov_inj {a b : Val} (h : ov a = ov b) : a = b := by
  cases a <;> cases b <;> first | rfl | (simp [rv] at h; done) | (simp at h; rw [h])
@[simp] theorem ov_eq (a b : Val) : ov a = ov b ↔ a = b := ⟨ov_inj, fun h => by rw [h]⟩
theorem map_inj {α : Type} {f : α → D} (hf : ∀ a b, f a = f b → a = b) : ∀ {xs ys : List α}, xs.map f = ys.map f → xs = ys
  | [], [], _ => rfl
  | [], _ :: _, h => by simp at h
  | _ :: _, [], h => by simp at h
  | x :: xs, y :: ys, h => by
    rw [List.map_cons, List.map_cons, List.cons.injEq] at h
    rw [hf x y h.1, map_inj hf h.2]
@[simp] theorem ovs_eq (xs ys : List Val) : xs.map ov = ys.map ov ↔ xs = ys := ⟨map_inj fun _ _ => ov_inj, fun h => by rw [h]⟩
@[simp] theorem rvs_eq (xs ys : List Rat) : xs.map rv = ys.map rv ↔ xs = ys := ⟨map_inj fun _ _ => rv_inj, fun h => by rw [h]⟩
@[simp] theorem pyEq_ov (a b : Val) (h : Hpp) : pyEq (ov a) (ov b) h = some (decide (a = b)) := by
  rw [pyEq_nb _ _ h (fit_ov 59 a) (fit_ov 59 b) (nb_ov a) (nb_ov b)]
  simp
@[simp] theorem pyEq_rv (a b : Rat) (h : Hpp) : pyEq (rv a) (rv b) h = some (decide (a = b)) := by
  have := pyEq_ov (some a) (some b) h
  simpa using this
theorem mem_map_inj {α : Type} {f : α → D} (hf : ∀ a b, f a = f b → a = b) (a : α) (xs : List α) : f a ∈ xs.map f ↔ a ∈ xs := by
  rw [List.mem_map]
  exact ⟨fun ⟨b, hb, e⟩ => by rw [← hf b a e]; exact hb, fun h => ⟨a, h, rfl⟩⟩
theorem any_deq (x : D) (nx : nb x = true) : ∀ ys : List D, nbL ys = true → ys.any (fun z => deq z x) = decide (x ∈ ys)
  | [], _ => by simp
  | y :: ys, h => by
    rw [nbL, Bool.and_eq_true] at h
    rw [List.any_cons, deq_nb y x h.1 nx, any_deq x nx ys h.2]
    by_cases e : y = x
    · subst e; simp
    · have e' : ¬ x = y := fun z => e z.symm
      simp [e, e']
theorem inD_seq (x y : D) (h : Hpp) (ys : List D) (r : res y h = .fl ys ∨ res y h = .tup ys) (fx : fit 60 x = true) (nx : nb x = true) (fy : fitL 59 ys = true) (ny : nbL ys = true) : inD x y h = some (decide (x ∈ ys)) := by
  unfold inD
  rw [pu_res h (nb_pure x nx), fx]
  rcases r with r | r
  · rw [r]
    have : fit 60 (.fl ys) = true := by rw [fit]; exact fy
    rw [this]
    simp only [Bool.and_self, if_true, any_deq x nx ys ny]
  · rw [r]
    have : fit 60 (.tup ys) = true := by rw [fit]; exact fy
    rw [this]
    simp only [Bool.and_self, if_true, any_deq x nx ys ny]
theorem inD_map {α : Type} (f : α → D) (hf : ∀ a b, f a = f b → a = b) (f6 : ∀ a, fit 60 (f a) = true) (ff : ∀ a, fit 59 (f a) = true) (nf : ∀ a, nb (f a) = true) (v : α) (vs : List α) (y : D) (h : Hpp) (r : res y h = .fl (vs.map f) ∨ res y h = .tup (vs.map f)) [dv : Decidable (v ∈ vs)] : inD (f v) y h = some (decide (v ∈ vs)) := by
  rw [inD_seq _ y h _ r (f6 v) (nf v) (fitL_map 59 f ff vs) (nbL_map f nf vs)]
  congr 1
  exact decide_eq_decide.mpr (mem_map_inj hf v vs)
@[simp] theorem inD_ov (v : Val) (vs : List Val) (h : Hpp) : inD (ov v) (.fl (vs.map ov)) h = some (decide (v ∈ vs)) := inD_map ov (fun _ _ => ov_inj) (fit_ov 59) (fit_ov 58) nb_ov v vs _ h (.inl rfl)
@[simp] theorem inD_int (v : Int) (vs : List Int) (h : Hpp) : inD (.int v) (.fl (vs.map D.int)) h = some (decide (v ∈ vs)) := inD_map D.int (fun _ _ h => by simpa using h) (fit_int 60) (fit_int 59) nb_int v vs _ h (.inl rfl)
@[simp] theorem inD_ovT (v : Val) (vs : List Val) (h : Hpp) : inD (ov v) (.tup (vs.map ov)) h = some (decide (v ∈ vs)) := inD_map ov (fun _ _ => ov_inj) (fit_ov 59) (fit_ov 58) nb_ov v vs _ h (.inr rfl)
@[simp] theorem inD_intT (v : Int) (vs : List Int) (h : Hpp) : inD (.int v) (.tup (vs.map D.int)) h = some (decide (v ∈ vs)) := inD_map D.int (fun _ _ h => by simpa using h) (fit_int 60) (fit_int 59) nb_int v vs _ h (.inr rfl)
@[simp] theorem ev_inn (cal : Cal) (ρ : Env) (h : Hpp) (ng : Bool) (a b : E) : ev cal (.inn ng a b) ρ h = (ev cal a ρ h).bind fun x h => (ev cal b ρ h).bind fun y h => (opt (inD x y h) h).bind fun k h => .ok (.bl (k != ng)) h := by simp only [ev]
def rng3 (x y z : D) (h : Hpp) : R Src := match x, y, z with
  | .int i, .int j, .int c => if c = -1 then srcDown i j h else .no
  | _, _, _ => .no
@[simp] theorem rng3_int (i j : Int) (h : Hpp) : rng3 (.int i) (.int j) (.int (-1)) h = srcDown i j h := id rfl
@[simp] theorem src_range3 (cal : Cal) (ρ : Env) (h : Hpp) (a b c : E) : src cal (.range3 a b c) ρ h = (ev cal a ρ h).bind fun x h => (ev cal b ρ h).bind fun y h => (ev cal c ρ h).bind fun z h => rng3 x y z h := by simp only [src]; rfl
@[simp] theorem item_ov0 (q : Rat) (h : Hpp) : item (rv q) (.int 0) h = some (.int q.num) := item_rv0 q h
/-! ### the order of values: None below all -/
def vlt : Val → Val → Bool
  | none, none => false
  | none, some _ => true
  | some _, none => false
  | some a, some b => decide (a < b)
def vmax (a b : Val) : Val := if vlt a b = true then b else a
def vmin (a b : Val) : Val := if vlt a b = true then a else b
def vadd : Val → Val → Val
  | some a, some b => some (a + b)
  | _, _ => none
def vgr (vs : List Val) : Val := vs.foldl vmax none
def vsum (vs : List Val) : Val := vs.foldl vadd (some 0)
/-- not too great for a sum, a product -/
def Ok (q : Rat) : Prop := Sm 4000 q
def OkV : Val → Prop
  | none => True
  | some q => Ok q
@[simp] theorem OkV_none : OkV none := trivial
@[simp] theorem OkV_some (q : Rat) : OkV (some q) ↔ Ok q := Iff.rfl
theorem Sm.ok {e : Nat} {q : Rat} (h : Sm e q) (l : e ≤ 4000) : Ok q := h.mono l
/-- q is a whole number of L-th parts, at most N of them -/
def Dn (L N : Nat) (q : Rat) : Prop := 0 < L ∧ ∃ z : Int, q = Rat.divInt z L ∧ z.natAbs ≤ N
def DnV (L N : Nat) : Val → Prop
  | none => True
  | some q => Dn L N q
@[simp] theorem DnV_none (L N : Nat) : DnV L N none := trivial
@[simp] theorem DnV_some (L N : Nat) (q : Rat) : DnV L N (some q) ↔ Dn L N q := Iff.rfl
theorem Dn.mono {L N M : Nat} {q : Rat} (h : Dn L N q) (l : N ≤ M) : Dn L M q := by
  obtain ⟨h0, z, e, hz⟩ := h
  exact ⟨h0, z, e, Nat.le_trans hz l⟩
theorem DnV.mono {L N M : Nat} {v : Val} (h : DnV L N v) (l : N ≤ M) : DnV L M v := by
  cases v with
  | none => trivial
  | some q => exact Dn.mono h l
theorem Dn.add {L N M : Nat} {q p : Rat} (h : Dn L N q) (g : Dn L M p) : Dn L (N + M) (q + p) := by
  obtain ⟨h0, z, e, hz⟩ := h
  obtain ⟨_, y, e', hy⟩ := g
  refine ⟨h0, z + y, ?_, by have := Int.natAbs_add_le z y; omega⟩
  have hL : (L : Int) ≠ 0 := by omega
  rw [e, e', Rat.divInt_add_divInt z y hL hL]
  refine (Rat.divInt_eq_divInt_iff (Int.mul_ne_zero hL hL) hL).mpr ?_
  rw [← Int.add_mul, Int.mul_assoc]
theorem Dn.neg {L N : Nat} {q : Rat} (h : Dn L N q) : Dn L N (-q) := by
  obtain ⟨h0, z, e, hz⟩ := h
  refine ⟨h0, -z, ?_, by omega⟩
  rw [e, Rat.neg_divInt]
theorem Dn.sub {L N M : Nat} {q p : Rat} (h : Dn L N q) (g : Dn L M p) : Dn L (N + M) (q - p) := by
  rw [Rat.sub_eq_add_neg]; exact h.add g.neg
theorem Dn.zero {L : Nat} (h : 0 < L) : Dn L 0 0 := ⟨h, 0, by simp, by simp⟩
theorem Dn.bd {L N e : Nat} {q : Rat} (h : Dn L N q) (hL : L < 2 ^ e) (hN : N < 2 ^ e) : Sm e q := by
  obtain ⟨h0, z, rfl, hz⟩ := h
  have i : Is (Rat.divInt z L) z L := ⟨by omega, rfl⟩
  exact i.sm (Nat.lt_of_le_of_lt hz hN) (by unfold Bd; simpa using hL)
theorem Dn.ok {L N : Nat} {q : Rat} (h : Dn L N q) (hL : L < 2 ^ 4000) (hN : N < 2 ^ 4000) : Ok q := h.bd hL hN
theorem DnV.ok {L N : Nat} {v : Val} (h : DnV L N v) (hL : L < 2 ^ 4000) (hN : N < 2 ^ 4000) : OkV v := by
  cases v with
  | none => trivial
  | some q => exact Dn.ok h hL hN
theorem DnV.add {L N M : Nat} {a b : Val} (h : DnV L N a) (g : DnV L M b) : DnV L (N + M) (vadd a b) := by
  cases a <;> cases b <;> first | trivial | exact Dn.add h g
theorem DnV.max {L N : Nat} {a b : Val} (h : DnV L N a) (g : DnV L N b) : DnV L N (vmax a b) := by
  unfold vmax; split <;> assumption
theorem DnV.min {L N : Nat} {a b : Val} (h : DnV L N a) (g : DnV L N b) : DnV L N (vmin a b) := by
  unfold vmin; split <;> assumption
theorem OkV.max {a b : Val} (h : OkV a) (g : OkV b) : OkV (vmax a b) := by
  unfold vmax; split <;> assumption
theorem OkV.min {a b : Val} (h : OkV a) (g : OkV b) : OkV (vmin a b) := by
  unfold vmin; split <;> assumption
theorem Ok.zero : Ok 0 := Sm.zero.mono (by decide)
theorem Ok.one : Ok 1 := Sm.one.mono (by decide)
@[simp] theorem end0_rtS (h h' : Hpp) {d : D} (p : pureD d = true) : end0 h (.rt d h') = .ok d h := end0_rt h h' p
@[simp] theorem pureL_mapS {α : Type} (f : α → D) (hf : ∀ a, pureD (f a) = true) (l : List α) : pureL (l.map f) = true := pureL_map f hf l
@[simp] theorem nbL_mapS {α : Type} (f : α → D) (hf : ∀ a, nb (f a) = true) (l : List α) : nbL (l.map f) = true := nbL_map f hf l
@[simp] theorem fitL_mapS {α : Type} (k : Nat) (f : α → D) (hf : ∀ a, fit k (f a) = true) (l : List α) : fitL k (l.map f) = true := fitL_map k f hf l
@[simp] theorem pureL_appendS (xs ys : List D) : pureL (xs ++ ys) = (pureL xs && pureL ys) := pureL_append xs ys
@[simp] theorem pureL_repS (d : D) (hd : pureD d = true) (n : Nat) : pureL (List.replicate n d) = true := pureL_rep d hd n
@[simp] theorem rv_ne (q : Rat) : ¬ (rv q = .non) := by simp [rv]
@[simp] theorem ov_ne (v : Val) : (ov v = .non) ↔ v = none := by cases v <;> simp
theorem asg_rv (cal : Cal) (ts : Lv) (q : Rat) (ρ : Env) (h : Hpp) : asg cal (.tup ts) (rv q) ρ h = if 2 = ts.len then asgs cal ts [.int q.num, .int q.den] ρ h else .no := by simp [rv]
end PL
namespace PL
mutual
/-- clean: to be held against itself -/
def cl : Nat → D → Bool
  | _, .non => true
  | _, .bl _ => true
  | _, .int _ => true
  | _, .str s => PySem.PyData.strOk s
  | 0, .tup _ => false
  | 0, .fl _ => false
  | k + 1, .tup xs => clL k xs && decide (xs.length ≤ 16000000)
  | k + 1, .fl xs => clL k xs && decide (xs.length ≤ 16000000)
  | _, .ref _ => false
  | _, .fn _ => false
  | _, .sc _ => false
def clL : Nat → List D → Bool
  | _, [] => true
  | k, x :: xs => cl k x && clL k xs
end
theorem clL_mem {k : Nat} : ∀ {xs : List D} {x : D}, clL k xs = true → x ∈ xs → cl k x = true
  | y :: ys, x, h, m => by
    rw [clL, Bool.and_eq_true] at h
    rcases List.mem_cons.mp m with rfl | m
    · exact h.1
    · exact clL_mem h.2 m
theorem cl_pure : ∀ {k : Nat} {d : D}, cl k d = true → pureD d = true := by
  intro k
  induction k with
  | zero => intro d h; cases d <;> simp_all [cl]
  | succ k ih =>
    have L : ∀ xs : List D, clL k xs = true → pureL xs = true := fun xs h => (pureL_iff xs).mpr fun x hx => ih (clL_mem h hx)
    intro d h
    cases d with
    | tup xs => rw [cl, Bool.and_eq_true] at h; rw [pureD]; exact L xs h.1
    | fl xs => rw [cl, Bool.and_eq_true] at h; rw [pureD]; exact L xs h.1
    | _ => simp_all [cl]
@[simp] theorem cl_non (k : Nat) : cl k .non = true := by cases k <;> simp [cl]
@[simp] theorem cl_bl (k : Nat) (b : Bool) : cl k (.bl b) = true := by cases k <;> simp [cl]
@[simp] theorem cl_int (k : Nat) (i : Int) : cl k (.int i) = true := by cases k <;> simp [cl]
@[simp] theorem cl_tup (k : Nat) (xs : List D) : cl (k + 1) (.tup xs) = (clL k xs && decide (xs.length ≤ 16000000)) := by simp [cl]
@[simp] theorem cl_fl (k : Nat) (xs : List D) : cl (k + 1) (.fl xs) = (clL k xs && decide (xs.length ≤ 16000000)) := by simp [cl]
@[simp] theorem clL_nil (k : Nat) : clL k [] = true := by simp [clL]
@[simp] theorem clL_cons (k : Nat) (x : D) (xs : List D) : clL k (x :: xs) = (cl k x && clL k xs) := by simp [clL]
@[simp] theorem cl_rv (k : Nat) (q : Rat) : cl (k + 1) (rv q) = true := by simp [rv]
@[simp] theorem cl_ov (k : Nat) (v : Val) : cl (k + 1) (ov v) = true := by cases v <;> simp
@[simp] theorem clL_map {α : Type} (k : Nat) (f : α → D) (hf : ∀ a, cl k (f a) = true) : ∀ l : List α, clL k (l.map f) = true
  | [] => by simp
  | a :: l => by rw [List.map_cons, clL, hf a, clL_map k f hf l]; rfl
@[simp] theorem clL_rep (k : Nat) (d : D) (hd : cl k d = true) : ∀ n, clL k (List.replicate n d) = true
  | 0 => by simp
  | n + 1 => by rw [List.replicate_succ, clL, hd, clL_rep k d hd n]; rfl
end PL
namespace PL
@[simp] theorem isTy_non_int (h : Hpp) : isTy .non h .int = false := id rfl
@[simp] theorem isTy_non_bool (h : Hpp) : isTy .non h .bool = false := id rfl
@[simp] theorem isTy_non_str (h : Hpp) : isTy .non h .str = false := id rfl
@[simp] theorem isTy_non_tuple (h : Hpp) : isTy .non h .tuple = false := id rfl
@[simp] theorem isTy_non_list (h : Hpp) : isTy .non h .list = false := id rfl
@[simp] theorem isTy_bl_int (b : Bool) (h : Hpp) : isTy (.bl b) h .int = true := id rfl
@[simp] theorem isTy_bl_bool (b : Bool) (h : Hpp) : isTy (.bl b) h .bool = true := id rfl
@[simp] theorem isTy_bl_str (b : Bool) (h : Hpp) : isTy (.bl b) h .str = false := id rfl
@[simp] theorem isTy_bl_tuple (b : Bool) (h : Hpp) : isTy (.bl b) h .tuple = false := id rfl
@[simp] theorem isTy_bl_list (b : Bool) (h : Hpp) : isTy (.bl b) h .list = false := id rfl
@[simp] theorem isTy_int_int (i : Int) (h : Hpp) : isTy (.int i) h .int = true := id rfl
@[simp] theorem isTy_int_bool (i : Int) (h : Hpp) : isTy (.int i) h .bool = false := id rfl
@[simp] theorem isTy_int_str (i : Int) (h : Hpp) : isTy (.int i) h .str = false := id rfl
@[simp] theorem isTy_int_tuple (i : Int) (h : Hpp) : isTy (.int i) h .tuple = false := id rfl
@[simp] theorem isTy_int_list (i : Int) (h : Hpp) : isTy (.int i) h .list = false := id rfl
@[simp] theorem isTy_str_int (s : Str) (h : Hpp) : isTy (.str s) h .int = false := id rfl
@[simp] theorem isTy_str_bool (s : Str) (h : Hpp) : isTy (.str s) h .bool = false := id rfl
@[simp] theorem isTy_str_str (s : Str) (h : Hpp) : isTy (.str s) h .str = true := id rfl
@[simp] theorem isTy_str_tuple (s : Str) (h : Hpp) : isTy (.str s) h .tuple = false := id rfl
@[simp] theorem isTy_str_list (s : Str) (h : Hpp) : isTy (.str s) h .list = false := id rfl
@[simp] theorem isTy_tup_int (xs : List D) (h : Hpp) : isTy (.tup xs) h .int = false := id rfl
@[simp] theorem isTy_tup_bool (xs : List D) (h : Hpp) : isTy (.tup xs) h .bool = false := id rfl
@[simp] theorem isTy_tup_str (xs : List D) (h : Hpp) : isTy (.tup xs) h .str = false := id rfl
@[simp] theorem isTy_tup_tuple (xs : List D) (h : Hpp) : isTy (.tup xs) h .tuple = true := id rfl
@[simp] theorem isTy_tup_list (xs : List D) (h : Hpp) : isTy (.tup xs) h .list = false := id rfl
@[simp] theorem isTy_fl_int (xs : List D) (h : Hpp) : isTy (.fl xs) h .int = false := id rfl
@[simp] theorem isTy_fl_bool (xs : List D) (h : Hpp) : isTy (.fl xs) h .bool = false := id rfl
@[simp] theorem isTy_fl_str (xs : List D) (h : Hpp) : isTy (.fl xs) h .str = false := id rfl
@[simp] theorem isTy_fl_tuple (xs : List D) (h : Hpp) : isTy (.fl xs) h .tuple = false := id rfl
@[simp] theorem isTy_fl_list (xs : List D) (h : Hpp) : isTy (.fl xs) h .list = true := id rfl
@[simp] theorem isTy_rv_int (q : Rat) (h : Hpp) : isTy (rv q) h .int = false := id rfl
@[simp] theorem isTy_rv_bool (q : Rat) (h : Hpp) : isTy (rv q) h .bool = false := id rfl
@[simp] theorem isTy_rv_str (q : Rat) (h : Hpp) : isTy (rv q) h .str = false := id rfl
@[simp] theorem isTy_rv_tuple (q : Rat) (h : Hpp) : isTy (rv q) h .tuple = true := id rfl
@[simp] theorem isTy_rv_list (q : Rat) (h : Hpp) : isTy (rv q) h .list = false := id rfl
@[simp] theorem tyOk_rv (q : Rat) (h : Hpp) : tyOk (rv q) h = true := id rfl
@[simp] theorem tyOk_ov (q : Val) (h : Hpp) : tyOk (ov q) h = true := by cases q <;> rfl
end PL
namespace PL
@[simp] theorem bls_map {α : Type} (p : α → Bool) : ∀ xs : List α, blsOf (xs.map fun x => D.bl (p x)) = some (xs.map p)
  | [] => rfl
  | x :: xs => by rw [List.map_cons, blsOf_cons, bls_map p xs]; rfl
@[simp] theorem bi_all_map {α : Type} (th : Bool) (p : α → Bool) (xs : List α) (h : Hpp) : doBi .all th [.fl (xs.map fun x => D.bl (p x))] h = .ok (.bl (xs.all p)) h := by
  rw [bi_all, bls_map]
  simp only [List.all_map]
  rfl
@[simp] theorem bi_any_map {α : Type} (th : Bool) (p : α → Bool) (xs : List α) (h : Hpp) : doBi .any th [.fl (xs.map fun x => D.bl (p x))] h = .ok (.bl (xs.any p)) h := by
  show (match blsOf (xs.map fun x => D.bl (p x)) with
    | some bs => R.ok (D.bl (bs.any id)) h
    | none => .no) = _
  rw [bls_map]
  simp only [List.any_map]
  rfl
@[simp] theorem pyEq_tt (xs ys : List D) (h : Hpp) (f1 : fitL 59 xs = true) (f2 : fitL 59 ys = true) (n1 : nbL xs = true) (n2 : nbL ys = true) : pyEq (.tup xs) (.tup ys) h = some (decide (xs = ys)) := by
  rw [pyEq_nb _ _ h (by rw [fit]; exact f1) (by rw [fit]; exact f2) (by rw [nb]; exact n1) (by rw [nb]; exact n2)]
  simp
@[simp] theorem pyEq_ff (xs ys : List D) (h : Hpp) (f1 : fitL 59 xs = true) (f2 : fitL 59 ys = true) (n1 : nbL xs = true) (n2 : nbL ys = true) : pyEq (.fl xs) (.fl ys) h = some (decide (xs = ys)) := by
  rw [pyEq_nb _ _ h (by rw [fit]; exact f1) (by rw [fit]; exact f2) (by rw [nb]; exact n1) (by rw [nb]; exact n2)]
  simp
theorem pyEq_str (a b : Str) (h : Hpp) (ha : PySem.PyData.strOk a = true) (hb : PySem.PyData.strOk b = true) : pyEq (.str a) (.str b) h = some (decide (a = b)) := by
  rw [pyEq_nb _ _ h (by simpa [fit] using ha) (by simpa [fit] using hb) rfl rfl]
  simp
/-! vectors -/
def rt (v : List Rat) : D := .tup (v.map rv)
def it (v : List Nat) : D := .tup (v.map fun (i : Nat) => D.int i)
theorem rt_def (v : List Rat) : rt v = .tup (v.map rv) := rfl
@[simp] theorem pureD_rt (v : List Rat) : pureD (rt v) = true := by simp [rt]
@[simp] theorem nb_rt (v : List Rat) : nb (rt v) = true := by simp [rt]
@[simp] theorem fit_rt (k : Nat) (v : List Rat) : fit (k + 2) (rt v) = true := by simp [rt]
@[simp] theorem cl_rt (k : Nat) (v : List Rat) (l : v.length ≤ 16000000) : cl (k + 2) (rt v) = true := by simp [rt, l]
theorem rt_inj {a b : List Rat} (h : rt a = rt b) : a = b := by
  simp only [rt, D.tup.injEq] at h
  exact map_inj (fun _ _ => rv_inj) h
@[simp] theorem rt_eq (a b : List Rat) : rt a = rt b ↔ a = b := ⟨rt_inj, fun h => by rw [h]⟩
@[simp] theorem pyEq_rt (a b : List Rat) (h : Hpp) : pyEq (rt a) (rt b) h = some (decide (a = b)) := by
  rw [pyEq_nb _ _ h (fit_rt 58 a) (fit_rt 58 b) (nb_rt a) (nb_rt b)]
  simp
@[simp] theorem pyEq_rt0 (a : List Rat) (h : Hpp) : pyEq (rt a) (.tup []) h = some (decide (a = [])) := pyEq_rt a [] h
@[simp] theorem isTy_rt_tuple (v : List Rat) (h : Hpp) : isTy (rt v) h .tuple = true := id rfl
@[simp] theorem isTy_rt_list (v : List Rat) (h : Hpp) : isTy (rt v) h .list = false := id rfl
@[simp] theorem isTy_rt_str (v : List Rat) (h : Hpp) : isTy (rt v) h .str = false := id rfl
@[simp] theorem isTy_rt_bool (v : List Rat) (h : Hpp) : isTy (rt v) h .bool = false := id rfl
@[simp] theorem isTy_rt_int (v : List Rat) (h : Hpp) : isTy (rt v) h .int = false := id rfl
@[simp] theorem tyOk_rt (v : List Rat) (h : Hpp) : tyOk (rt v) h = true := id rfl
@[simp] theorem len_rt (th : Bool) (v : List Rat) (h : Hpp) : doBi .len th [rt v] h = .ok (.int v.length) h := by simp [rt]
@[simp] theorem tuple_rt (th : Bool) (v : List Rat) (h : Hpp) : doBi .tuple th [rt v] h = .ok (rt v) h := rfl
@[simp] theorem bi_tuple_fl (th : Bool) (xs : List D) (h : Hpp) : doBi .tuple th [.fl xs] h = .ok (.tup xs) h := rfl
@[simp] theorem bi_tuple_tup (th : Bool) (xs : List D) (h : Hpp) : doBi .tuple th [.tup xs] h = .ok (.tup xs) h := rfl
/-- the item at a place -/
def at0 (v : List Rat) (p : Nat) : Rat := v.getD p 0
theorem at0_eq {v : List Rat} {p : Nat} (hp : p < v.length) : at0 v p = v[p] := by
  simp [at0, List.getD, List.getElem?_eq_getElem hp]
theorem at0_mem {v : List Rat} {p : Nat} (hp : p < v.length) : at0 v p ∈ v := by
  rw [at0_eq hp]; exact List.getElem_mem hp
theorem item_rt (v : List Rat) (p : Nat) (h : Hpp) (hp : p < v.length) : item (rt v) (.int p) h = some (rv (at0 v p)) := by
  rw [rt, item_tup, atI_map, atI_nat, at0_eq hp]
  simp [List.getElem?_eq_getElem hp]
theorem Ok.qmax {a b : Rat} (ha : Ok a) (hb : Ok b) : Ok (if a < b then b else a) := by split <;> assumption
theorem Ok.qmin {a b : Rat} (ha : Ok a) (hb : Ok b) : Ok (if a < b then a else b) := by split <;> assumption
/-! lots of vectors -/
def lotD (lot : List (List Rat)) : D := .tup (lot.map rt)
@[simp] theorem pureD_lot (v : List (List Rat)) : pureD (lotD v) = true := by simp [lotD]
@[simp] theorem nb_lot (v : List (List Rat)) : nb (lotD v) = true := by simp [lotD]
@[simp] theorem fit_lot (k : Nat) (v : List (List Rat)) : fit (k + 3) (lotD v) = true := by simp [lotD]
@[simp] theorem isTy_lot_tuple (v : List (List Rat)) (h : Hpp) : isTy (lotD v) h .tuple = true := id rfl
@[simp] theorem isTy_lot_list (v : List (List Rat)) (h : Hpp) : isTy (lotD v) h .list = false := id rfl
@[simp] theorem tyOk_lot (v : List (List Rat)) (h : Hpp) : tyOk (lotD v) h = true := id rfl
@[simp] theorem len_lot (th : Bool) (v : List (List Rat)) (h : Hpp) : doBi .len th [lotD v] h = .ok (.int v.length) h := by simp [lotD]
@[simp] theorem src_lot (v : List (List Rat)) (h : Hpp) : srcOf (lotD v) h = .ok ⟨v.map rt, []⟩ h := id rfl
@[simp] theorem pyEq_lot0 (v : List (List Rat)) (h : Hpp) : pyEq (lotD v) (.tup []) h = some (decide (v = [])) := by
  rw [lotD, pyEq_tt] <;> simp
theorem item_map {α : Type} (f : α → D) (xs : List α) (p : Nat) (a : α) (h : Hpp) (hp : xs[p]? = some a) : item (.tup (xs.map f)) (.int p) h = some (f a) := by
  rw [item_tup, atI_map, atI_nat, hp]; rfl
theorem item_mapF {α : Type} (f : α → D) (xs : List α) (p : Nat) (a : α) (h : Hpp) (hp : xs[p]? = some a) : item (.fl (xs.map f)) (.int p) h = some (f a) := by
  rw [item_fl, atI_map, atI_nat, hp]; rfl
@[simp] theorem src_rt (v : List Rat) (h : Hpp) : srcOf (rt v) h = .ok ⟨v.map rv, []⟩ h := id rfl
/-! the greatest, the least of a row -/
def qmax (a b : Rat) : Rat := if a < b then b else a
def qmin (a b : Rat) : Rat := if a < b then a else b
theorem vmax_some (a b : Rat) : vmax (some a) (some b) = some (qmax a b) := by
  unfold vmax vlt qmax
  by_cases h : a < b <;> simp [h]
theorem vmin_some (a b : Rat) : vmin (some a) (some b) = some (qmin a b) := by
  unfold vmin vlt qmin
  by_cases h : a < b <;> simp [h]
theorem vmax_none (a : Val) : vmax none a = a := by
  cases a <;> simp [vmax, vlt]
def rgr : List Rat → Rat
  | [] => 0
  | x :: xs => xs.foldl qmax x
def rls : List Rat → Rat
  | [] => 0
  | x :: xs => xs.foldl qmin x
theorem fold_vmax (xs : List Rat) : ∀ a : Rat, (xs.map some).foldl vmax (some a) = some (xs.foldl qmax a) := by
  induction xs with
  | nil => intro a; rfl
  | cons x xs ih => intro a; rw [List.map_cons, List.foldl_cons, vmax_some, ih]; rfl
theorem vgr_some (xs : List Rat) (h : xs ≠ []) : vgr (xs.map some) = some (rgr xs) := by
  cases xs with
  | nil => exact absurd rfl h
  | cons x xs =>
    unfold vgr
    rw [List.map_cons, List.foldl_cons, vmax_none, fold_vmax]; rfl
theorem fold_qmax (xs : List Rat) : ∀ a : Rat, (xs.foldl qmax a = a ∨ xs.foldl qmax a ∈ xs) ∧ a ≤ xs.foldl qmax a ∧ ∀ x ∈ xs, x ≤ xs.foldl qmax a := by
  induction xs with
  | nil => intro a; exact ⟨.inl rfl, Rat.le_refl, by simp⟩
  | cons x xs ih =>
    intro a
    obtain ⟨h1, h2, h3⟩ := ih (qmax a x)
    have q1 : a ≤ qmax a x := by unfold qmax; split <;> grind
    have q2 : x ≤ qmax a x := by unfold qmax; split <;> grind
    rw [List.foldl_cons]
    refine ⟨?_, by grind, fun y hy => ?_⟩
    · rcases h1 with h1 | h1
      · rw [h1]; unfold qmax; split
        · exact .inr List.mem_cons_self
        · exact .inl rfl
      · exact .inr (List.mem_cons_of_mem _ h1)
    · rcases List.mem_cons.mp hy with rfl | hy
      · grind
      · exact h3 y hy
theorem fold_qmin (xs : List Rat) : ∀ a : Rat, (xs.foldl qmin a = a ∨ xs.foldl qmin a ∈ xs) ∧ xs.foldl qmin a ≤ a ∧ ∀ x ∈ xs, xs.foldl qmin a ≤ x := by
  induction xs with
  | nil => intro a; exact ⟨.inl rfl, Rat.le_refl, by simp⟩
  | cons x xs ih =>
    intro a
    obtain ⟨h1, h2, h3⟩ := ih (qmin a x)
    have q1 : qmin a x ≤ a := by unfold qmin; split <;> grind
    have q2 : qmin a x ≤ x := by unfold qmin; split <;> grind
    rw [List.foldl_cons]
    refine ⟨?_, by grind, fun y hy => ?_⟩
    · rcases h1 with h1 | h1
      · rw [h1]; unfold qmin; split
        · exact .inl rfl
        · exact .inr List.mem_cons_self
      · exact .inr (List.mem_cons_of_mem _ h1)
    · rcases List.mem_cons.mp hy with rfl | hy
      · grind
      · exact h3 y hy
theorem rgr_mem {xs : List Rat} (h : xs ≠ []) : rgr xs ∈ xs := by
  cases xs with
  | nil => exact absurd rfl h
  | cons x xs =>
    rcases (fold_qmax xs x).1 with e | e
    · show xs.foldl qmax x ∈ _
      rw [e]; exact List.mem_cons_self
    · exact List.mem_cons_of_mem _ e
theorem rgr_le {xs : List Rat} {x : Rat} (h : x ∈ xs) : x ≤ rgr xs := by
  cases xs with
  | nil => simp at h
  | cons y xs =>
    rcases List.mem_cons.mp h with rfl | h
    · exact (fold_qmax xs _).2.1
    · exact (fold_qmax xs y).2.2 x h
theorem rls_mem {xs : List Rat} (h : xs ≠ []) : rls xs ∈ xs := by
  cases xs with
  | nil => exact absurd rfl h
  | cons x xs =>
    rcases (fold_qmin xs x).1 with e | e
    · show xs.foldl qmin x ∈ _
      rw [e]; exact List.mem_cons_self
    · exact List.mem_cons_of_mem _ e
theorem rls_le {xs : List Rat} {x : Rat} (h : x ∈ xs) : rls xs ≤ x := by
  cases xs with
  | nil => simp at h
  | cons y xs =>
    rcases List.mem_cons.mp h with rfl | h
    · exact (fold_qmin xs _).2.1
    · exact (fold_qmin xs y).2.2 x h
end PL
namespace PL
@[simp] theorem srcE_tup (xs : List D) (h : Hpp) : srcE (.tup xs) h = .ok ⟨enumL 0 xs, []⟩ h := id rfl
@[simp] theorem srcE_fl (xs : List D) (h : Hpp) : srcE (.fl xs) h = .ok ⟨enumL 0 xs, []⟩ h := id rfl
@[simp] theorem ite_ok (p : Prop) [Decidable p] (h : Hpp) : (if p then R.ok true h else R.ok false h) = R.ok (decide p) h := by split <;> simp [*]
theorem srcE_rt (v : List Rat) (h : Hpp) : srcE (rt v) h = .ok ⟨(v.zipIdx).map fun p => D.tup [.int p.2, rv p.1], []⟩ h := by
  rw [rt, srcE_tup, enumL_map]
theorem srcE_lot (v : List (List Rat)) (h : Hpp) : srcE (lotD v) h = .ok ⟨(v.zipIdx).map fun p => D.tup [.int p.2, rt p.1], []⟩ h := by
  rw [lotD, srcE_tup, enumL_map]
/-! places -/
@[simp] theorem pureD_it (v : List Nat) : pureD (it v) = true := by simp [it]
@[simp] theorem nb_it (v : List Nat) : nb (it v) = true := by simp [it]
@[simp] theorem fit_it (k : Nat) (v : List Nat) : fit (k + 1) (it v) = true := by simp [it]
@[simp] theorem isTy_it_tuple (v : List Nat) (h : Hpp) : isTy (it v) h .tuple = true := id rfl
@[simp] theorem isTy_it_list (v : List Nat) (h : Hpp) : isTy (it v) h .list = false := id rfl
@[simp] theorem isTy_it_str (v : List Nat) (h : Hpp) : isTy (it v) h .str = false := id rfl
@[simp] theorem tyOk_it (v : List Nat) (h : Hpp) : tyOk (it v) h = true := id rfl
@[simp] theorem len_it (th : Bool) (v : List Nat) (h : Hpp) : doBi .len th [it v] h = .ok (.int v.length) h := by simp [it]
@[simp] theorem pyEq_it0 (v : List Nat) (h : Hpp) : pyEq (it v) (.tup []) h = some (decide (v = [])) := by
  rw [it, pyEq_tt] <;> simp
@[simp] theorem cl_it (k : Nat) (v : List Nat) (l : v.length ≤ 16000000) : cl (k + 1) (it v) = true := by simp [it, l]
theorem item_it (v : List Nat) (p : Nat) (a : Nat) (h : Hpp) (e : v[p]? = some a) : item (it v) (.int p) h = some (.int a) := item_map (fun (i : Nat) => D.int i) v p a h e
theorem inj_nat : ∀ a b : Nat, D.int (a : Int) = D.int (b : Int) → a = b := fun a b h => by simp at h; omega
@[simp] theorem inD_nat (v : Nat) (vs : List Nat) (h : Hpp) : inD (.int v) (.fl (vs.map fun (i : Nat) => D.int i)) h = some (decide (v ∈ vs)) := inD_map (fun (i : Nat) => D.int i) inj_nat (fun _ => fit_int 60 _) (fun _ => fit_int 59 _) (fun _ => nb_int _) v vs _ h (.inl rfl)
end PL
end
section
set_option Elab.async false
set_option linter.all false
set_option maxRecDepth 100000
set_option maxHeartbeats 0
namespace PL.G
open PL
abbrev i_ratios_is_integer : Nat := 0
abbrev i_ratios_is_ratio : Nat := 1
abbrev i_ratios_divisor : Nat := 2
abbrev i_ratios_make : Nat := 3
abbrev i_ratios_add : Nat := 4
abbrev i_ratios_subtract : Nat := 5
abbrev i_ratios_less : Nat := 6
abbrev i_values_is_less : Nat := 7
abbrev i_values_greater : Nat := 8
abbrev i_values_lesser : Nat := 9
abbrev i_values_greatest : Nat := 10
abbrev i_hulls_is_lot : Nat := 11
abbrev i_hulls_check_lot : Nat := 12
abbrev i_hulls_check_vector : Nat := 13
abbrev i_hulls_gaps : Nat := 14
abbrev i_hulls_least : Nat := 15
abbrev i_hulls_shares : Nat := 16
abbrev i_hulls_joined : Nat := 17
abbrev i_hulls_nearest : Nat := 18
abbrev i_hulls_is_in : Nat := 19
abbrev i_hulls_types : Nat := 20
abbrev i_hulls_wall : Nat := 21
abbrev i_hulls_judge_wall : Nat := 22
abbrev i_hulls_paper : Nat := 23
abbrev i_hulls_judge : Nat := 24
abbrev i_w_tape : Nat := 25
abbrev i_w_draw : Nat := 26
abbrev i_w_pick : Nat := 27
abbrev i_w_same : Nat := 28
abbrev i_w_make : Nat := 29
abbrev i_w_plus : Nat := 30
abbrev i_w_times : Nat := 31
abbrev i_w_number : Nat := 32
abbrev i_w_value : Nat := 33
abbrev i_w_less : Nat := 34
abbrev i_w_minus : Nat := 35
abbrev i_w_both : Nat := 36
abbrev i_w_most : Nat := 37
abbrev i_w_lesser : Nat := 38
abbrev i_w_joined : Nat := 39
abbrev i_w_out : Nat := 40
abbrev i_w_right_places : Nat := 41
abbrev i_w_law : Nat := 42
abbrev x_BadNumber : Nat := 0
abbrev x_BadTable : Nat := 1
def b_ratios_is_integer : Ss := (.cons (.ret (.and (.isi (.var 0) [.int]) (.not (.isi (.var 0) [.bool])))) .nil)
def f_ratios_is_integer : Fn := ⟨1, 1, b_ratios_is_integer, 0⟩
def n_ratios_is_integer : List Str := ("value" :: [])
def el_ratios_is_ratio_0 : E := (.call i_ratios_is_integer (.cons (.var 1) .nil))
def b_ratios_is_ratio : Ss := (.cons (.iff (.or (.not (.isi (.var 0) [.tuple])) (.or (.cmp .ne (.bi .len false (.cons (.var 0) .nil)) (.cst (.int 2))) (.not (.bi .all false (.cons (.comp false el_ratios_is_ratio_0 (.name 1) (.of (.var 0)) .nil [1]) .nil))))) (.cons (.ret (.cst (.bl false))) .nil) .nil) (.cons (.ret (.and (.cmp .gt (.idx (.var 0) (.cst (.int 1))) (.cst (.int 0))) (.cmp .eq (.call i_ratios_divisor (.cons (.idx (.var 0) (.cst (.int 0))) (.cons (.idx (.var 0) (.cst (.int 1))) .nil))) (.cst (.int 1))))) .nil))
def f_ratios_is_ratio : Fn := ⟨1, 2, b_ratios_is_ratio, 0⟩
def n_ratios_is_ratio : List Str := ("value" :: "item" :: [])
def wc_ratios_divisor_0 : E := (.cmp .gt (.var 1) (.cst (.int 0)))
def lp_ratios_divisor_0 : Ss := (.cons (.asg (.tup (.cons (.name 0) (.cons (.name 1) .nil))) (.tup (.cons (.var 1) (.cons (.bin false .mod (.var 0) (.var 1)) .nil)))) .nil)
def b_ratios_divisor : Ss := (.cons (.asg (.tup (.cons (.name 0) (.cons (.name 1) .nil))) (.tup (.cons (.bi .abs false (.cons (.var 0) .nil)) (.cons (.bi .abs false (.cons (.var 1) .nil)) .nil)))) (.cons (.whl wc_ratios_divisor_0 lp_ratios_divisor_0) (.cons (.ret (.var 0)) .nil)))
def f_ratios_divisor : Fn := ⟨2, 2, b_ratios_divisor, 0⟩
def n_ratios_divisor : List Str := ("one" :: "other" :: [])
def b_ratios_make : Ss := (.cons (.iff (.cmp .eq (.var 1) (.cst (.int 0))) (.cons (.raise x_BadNumber) .nil) .nil) (.cons (.asg (.name 2) (.call i_ratios_divisor (.cons (.var 0) (.cons (.var 1) .nil)))) (.cons (.iff (.cmp .lt (.var 1) (.cst (.int 0))) (.cons (.asg (.name 2) (.neg (.var 2))) .nil) .nil) (.cons (.ret (.tup (.cons (.bin false .fdiv (.var 0) (.var 2)) (.cons (.bin false .fdiv (.var 1) (.var 2)) .nil)))) .nil))))
def f_ratios_make : Fn := ⟨2, 3, b_ratios_make, 0⟩
def n_ratios_make : List Str := ("above" :: "below" :: "common" :: [])
def b_ratios_add : Ss := (.cons (.ret (.call i_ratios_make (.cons (.bin false .add (.bin false .mul (.idx (.var 0) (.cst (.int 0))) (.idx (.var 1) (.cst (.int 1)))) (.bin false .mul (.idx (.var 1) (.cst (.int 0))) (.idx (.var 0) (.cst (.int 1))))) (.cons (.bin false .mul (.idx (.var 0) (.cst (.int 1))) (.idx (.var 1) (.cst (.int 1)))) .nil)))) .nil)
def f_ratios_add : Fn := ⟨2, 2, b_ratios_add, 0⟩
def n_ratios_add : List Str := ("one" :: "other" :: [])
def b_ratios_subtract : Ss := (.cons (.ret (.call i_ratios_make (.cons (.bin false .sub (.bin false .mul (.idx (.var 0) (.cst (.int 0))) (.idx (.var 1) (.cst (.int 1)))) (.bin false .mul (.idx (.var 1) (.cst (.int 0))) (.idx (.var 0) (.cst (.int 1))))) (.cons (.bin false .mul (.idx (.var 0) (.cst (.int 1))) (.idx (.var 1) (.cst (.int 1)))) .nil)))) .nil)
def f_ratios_subtract : Fn := ⟨2, 2, b_ratios_subtract, 0⟩
def n_ratios_subtract : List Str := ("one" :: "other" :: [])
def b_ratios_less : Ss := (.cons (.ret (.cmp .lt (.bin false .mul (.idx (.var 0) (.cst (.int 0))) (.idx (.var 1) (.cst (.int 1)))) (.bin false .mul (.idx (.var 1) (.cst (.int 0))) (.idx (.var 0) (.cst (.int 1)))))) .nil)
def f_ratios_less : Fn := ⟨2, 2, b_ratios_less, 0⟩
def n_ratios_less : List Str := ("one" :: "other" :: [])
def b_values_is_less : Ss := (.cons (.iff (.or (.isN false (.var 0)) (.isN false (.var 1))) (.cons (.ret (.and (.isN false (.var 0)) (.isN true (.var 1)))) .nil) .nil) (.cons (.ret (.call i_ratios_less (.cons (.var 0) (.cons (.var 1) .nil)))) .nil))
def f_values_is_less : Fn := ⟨2, 2, b_values_is_less, 0⟩
def n_values_is_less : List Str := ("one" :: "other" :: [])
def b_values_greater : Ss := (.cons (.ret (.ite (.call i_values_is_less (.cons (.var 0) (.cons (.var 1) .nil))) (.var 1) (.var 0))) .nil)
def f_values_greater : Fn := ⟨2, 2, b_values_greater, 0⟩
def n_values_greater : List Str := ("one" :: "other" :: [])
def b_values_lesser : Ss := (.cons (.ret (.ite (.call i_values_is_less (.cons (.var 0) (.cons (.var 1) .nil))) (.var 0) (.var 1))) .nil)
def f_values_lesser : Fn := ⟨2, 2, b_values_lesser, 0⟩
def n_values_lesser : List Str := ("one" :: "other" :: [])
def lp_values_greatest_0 : Ss := (.cons (.asg (.name 1) (.call i_values_greater (.cons (.var 1) (.cons (.var 2) .nil)))) .nil)
def b_values_greatest : Ss := (.cons (.asg (.name 1) (.cst .non)) (.cons (.for_ (.name 2) (.of (.var 0)) lp_values_greatest_0) (.cons (.ret (.var 1)) .nil)))
def f_values_greatest : Fn := ⟨1, 3, b_values_greatest, 0⟩
def n_values_greatest : List Str := ("values" :: "found" :: "value" :: [])
def el_hulls_is_lot_1 : E := (.call i_ratios_is_ratio (.cons (.var 2) .nil))
def lp_hulls_is_lot_0 : Ss := (.cons (.iff (.or (.not (.isi (.var 1) [.tuple])) (.or (.cmp .eq (.var 1) (.tup .nil)) (.or (.cmp .gt (.bi .len false (.cons (.var 1) .nil)) (.glb "MOST_VECTORS" (.int 10))) (.cmp .ne (.bi .len false (.cons (.var 1) .nil)) (.bi .len false (.cons (.idx (.var 0) (.cst (.int 0))) .nil)))))) (.cons (.ret (.cst (.bl false))) .nil) .nil) (.cons (.iff (.not (.bi .all false (.cons (.comp false el_hulls_is_lot_1 (.name 2) (.of (.var 1)) .nil [2]) .nil))) (.cons (.ret (.cst (.bl false))) .nil) .nil) .nil))
def b_hulls_is_lot : Ss := (.cons (.iff (.or (.not (.isi (.var 0) [.tuple])) (.or (.cmp .eq (.var 0) (.tup .nil)) (.cmp .gt (.bi .len false (.cons (.var 0) .nil)) (.glb "MOST_VECTORS" (.int 10))))) (.cons (.ret (.cst (.bl false))) .nil) .nil) (.cons (.for_ (.name 1) (.of (.var 0)) lp_hulls_is_lot_0) (.cons (.ret (.cst (.bl true))) .nil)))
def f_hulls_is_lot : Fn := ⟨1, 3, b_hulls_is_lot, 0⟩
def n_hulls_is_lot : List Str := ("value" :: "one" :: "item" :: [])
def b_hulls_check_lot : Ss := (.cons (.iff (.not (.call i_hulls_is_lot (.cons (.var 0) .nil))) (.cons (.raise x_BadTable) .nil) .nil) .nil)
def f_hulls_check_lot : Fn := ⟨1, 1, b_hulls_check_lot, 0⟩
def n_hulls_check_lot : List Str := ("value" :: [])
def el_hulls_check_vector_0 : E := (.call i_ratios_is_ratio (.cons (.var 2) .nil))
def b_hulls_check_vector : Ss := (.cons (.exp (.call i_hulls_check_lot (.cons (.var 0) .nil))) (.cons (.iff (.or (.not (.isi (.var 1) [.tuple])) (.or (.cmp .ne (.bi .len false (.cons (.var 1) .nil)) (.bi .len false (.cons (.idx (.var 0) (.cst (.int 0))) .nil))) (.not (.bi .all false (.cons (.comp false el_hulls_check_vector_0 (.name 2) (.of (.var 1)) .nil [2]) .nil))))) (.cons (.raise x_BadTable) .nil) .nil) .nil))
def f_hulls_check_vector : Fn := ⟨2, 3, b_hulls_check_vector, 0⟩
def n_hulls_check_vector : List Str := ("lot" :: "vector" :: "item" :: [])
def el_hulls_gaps_0 : E := (.call i_ratios_subtract (.cons (.var 2) (.cons (.var 3) .nil)))
def b_hulls_gaps : Ss := (.cons (.ret (.bi .tuple false (.cons (.comp false el_hulls_gaps_0 (.tup (.cons (.name 2) (.cons (.name 3) .nil))) (.zip (.var 0) (.var 1)) .nil [2, 3]) .nil))) .nil)
def f_hulls_gaps : Fn := ⟨2, 4, b_hulls_gaps, 0⟩
def n_hulls_gaps : List Str := ("one" :: "other" :: "left" :: "right" :: [])
def lp_hulls_least_0 : Ss := (.cons (.asg (.name 1) (.call i_values_lesser (.cons (.var 1) (.cons (.var 2) .nil)))) .nil)
def b_hulls_least : Ss := (.cons (.asg (.name 1) (.idx (.var 0) (.cst (.int 0)))) (.cons (.for_ (.name 2) (.of (.sl false (.var 0) (.cons (.cst (.int 1)) .nil) .nil)) lp_hulls_least_0) (.cons (.ret (.var 1)) .nil)))
def f_hulls_least : Fn := ⟨1, 3, b_hulls_least, 0⟩
def n_hulls_least : List Str := ("values" :: "found" :: "value" :: [])
def el_hulls_shares_0 : E := (.call i_hulls_least (.cons (.call i_hulls_gaps (.cons (.var 1) (.cons (.var 2) .nil))) .nil))
def b_hulls_shares : Ss := (.cons (.exp (.call i_hulls_check_vector (.cons (.var 0) (.cons (.var 1) .nil)))) (.cons (.ret (.bi .tuple false (.cons (.comp false el_hulls_shares_0 (.name 2) (.of (.var 0)) .nil [2]) .nil))) .nil))
def f_hulls_shares : Fn := ⟨2, 3, b_hulls_shares, 0⟩
def n_hulls_shares : List Str := ("lot" :: "vector" :: "one" :: [])
def el_hulls_joined_1 : E := (.idx (.var 3) (.var 5))
def el_hulls_joined_0 : E := (.call i_values_greatest (.cons (.comp false el_hulls_joined_1 (.name 3) (.of (.var 2)) .nil [3]) .nil))
def el_hulls_joined_3 : E := (.call i_ratios_add (.cons (.var 4) (.cons (.var 6) .nil)))
def el_hulls_joined_2 : E := (.bi .tuple false (.cons (.comp false el_hulls_joined_3 (.name 6) (.of (.var 3)) .nil [6]) .nil))
def b_hulls_joined : Ss := (.cons (.exp (.call i_hulls_check_lot (.cons (.var 0) .nil))) (.cons (.asg (.name 2) (.comp false el_hulls_joined_2 (.tup (.cons (.name 3) (.cons (.name 4) .nil))) (.zip (.var 0) (.var 1)) .nil [3, 4])) (.cons (.ret (.bi .tuple false (.cons (.comp false el_hulls_joined_0 (.name 5) (.range1 (.bi .len false (.cons (.idx (.var 0) (.cst (.int 0))) .nil))) .nil [5]) .nil))) .nil)))
def f_hulls_joined : Fn := ⟨2, 7, b_hulls_joined, 0⟩
def n_hulls_joined : List Str := ("lot" :: "numbers" :: "columns" :: "one" :: "number" :: "k" :: "item" :: [])
def b_hulls_nearest : Ss := (.cons (.ret (.call i_hulls_joined (.cons (.var 0) (.cons (.call i_hulls_shares (.cons (.var 0) (.cons (.var 1) .nil))) .nil)))) .nil)
def f_hulls_nearest : Fn := ⟨2, 2, b_hulls_nearest, 0⟩
def n_hulls_nearest : List Str := ("lot" :: "vector" :: [])
def b_hulls_is_in : Ss := (.cons (.ret (.cmp .eq (.call i_hulls_nearest (.cons (.var 0) (.cons (.var 1) .nil))) (.bi .tuple false (.cons (.var 1) .nil)))) .nil)
def f_hulls_is_in : Fn := ⟨2, 2, b_hulls_is_in, 0⟩
def n_hulls_is_in : List Str := ("lot" :: "vector" :: [])
def el_hulls_types_1 : E := (.var 6)
def cs_hulls_types_1 : Es := (.cons (.cmp .eq (.call i_ratios_add (.cons (.idx (.var 2) (.var 6)) (.cons (.idx (.var 7) (.var 4)) .nil))) (.var 5)) .nil)
def lp_hulls_types_0 : Ss := (.cons (.exp (.mth .append (.var 3) (.cons (.bi .tuple false (.cons (.comp false el_hulls_types_1 (.tup (.cons (.name 6) (.cons (.name 7) .nil))) (.enum (.var 0)) cs_hulls_types_1 [6, 7]) .nil)) .nil))) .nil)
def b_hulls_types : Ss := (.cons (.asg (.name 2) (.call i_hulls_shares (.cons (.var 0) (.cons (.var 1) .nil)))) (.cons (.asg (.name 3) (.lst true .nil)) (.cons (.for_ (.tup (.cons (.name 4) (.cons (.name 5) .nil))) (.enum (.var 1)) lp_hulls_types_0) (.cons (.ret (.bi .tuple false (.cons (.var 3) .nil))) .nil))))
def f_hulls_types : Fn := ⟨2, 8, b_hulls_types, 0⟩
def n_hulls_types : List Str := ("lot" :: "vector" :: "numbers" :: "found" :: "place" :: "item" :: "k" :: "one" :: [])
def el_hulls_wall_0 : E := (.var 3)
def cs_hulls_wall_0 : Es := (.cons (.cmp .eq (.var 4) (.tup .nil)) .nil)
def b_hulls_wall : Ss := (.cons (.exp (.call i_hulls_check_vector (.cons (.var 0) (.cons (.var 1) .nil)))) (.cons (.asg (.name 2) (.comp false el_hulls_wall_0 (.tup (.cons (.name 3) (.cons (.name 4) .nil))) (.enum (.call i_hulls_types (.cons (.var 0) (.cons (.var 1) .nil)))) cs_hulls_wall_0 [3, 4])) (.cons (.ret (.ite (.cmp .eq (.var 2) (.lst false .nil)) (.cst .non) (.tup (.cons (.idx (.var 2) (.cst (.int 0))) (.cons (.call i_hulls_nearest (.cons (.var 0) (.cons (.var 1) .nil))) .nil))))) .nil)))
def f_hulls_wall : Fn := ⟨2, 5, b_hulls_wall, 0⟩
def n_hulls_wall : List Str := ("lot" :: "vector" :: "free" :: "place" :: "one" :: [])
def lp_hulls_judge_wall_0 : Ss := (.cons (.iff (.or (.not (.call i_ratios_is_integer (.cons (.var 6) .nil))) (.or (.cmp .lt (.var 6) (.cst (.int 0))) (.cmp .ge (.var 6) (.bi .len false (.cons (.var 1) .nil))))) (.cons (.ret (.cst (.bl false))) .nil) .nil) (.cons (.iff (.not (.call i_ratios_less (.cons (.call i_ratios_subtract (.cons (.idx (.var 5) (.var 3)) (.cons (.idx (.var 5) (.var 6)) .nil))) (.cons (.call i_ratios_subtract (.cons (.idx (.var 1) (.var 3)) (.cons (.idx (.var 1) (.var 6)) .nil))) .nil)))) (.cons (.ret (.cst (.bl false))) .nil) .nil) .nil))
def b_hulls_judge_wall : Ss := (.cons (.exp (.call i_hulls_check_vector (.cons (.var 0) (.cons (.var 1) .nil)))) (.cons (.iff (.or (.not (.isi (.var 2) [.tuple])) (.or (.cmp .ne (.bi .len false (.cons (.var 2) .nil)) (.cst (.int 2))) (.not (.isi (.idx (.var 2) (.cst (.int 1))) [.tuple])))) (.cons (.ret (.cst (.bl false))) .nil) .nil) (.cons (.asg (.tup (.cons (.name 3) (.cons (.name 4) .nil))) (.var 2)) (.cons (.iff (.or (.not (.call i_ratios_is_integer (.cons (.var 3) .nil))) (.or (.cmp .lt (.var 3) (.cst (.int 0))) (.or (.cmp .ge (.var 3) (.bi .len false (.cons (.var 1) .nil))) (.cmp .ne (.bi .len false (.cons (.var 4) .nil)) (.bi .len false (.cons (.var 0) .nil)))))) (.cons (.ret (.cst (.bl false))) .nil) .nil) (.cons (.for_ (.tup (.cons (.name 5) (.cons (.name 6) .nil))) (.zip (.var 0) (.var 4)) lp_hulls_judge_wall_0) (.cons (.ret (.cst (.bl true))) .nil))))))
def f_hulls_judge_wall : Fn := ⟨3, 7, b_hulls_judge_wall, 0⟩
def n_hulls_judge_wall : List Str := ("lot" :: "vector" :: "answer" :: "place" :: "others" :: "one" :: "other" :: [])
def el_hulls_paper_1 : E := (.var 7)
def cs_hulls_paper_1 : Es := (.cons (.cmp .eq (.call i_ratios_add (.cons (.var 6) (.cons (.var 8) .nil))) (.idx (.var 1) (.var 7))) .nil)
def lp_hulls_paper_0 : Ss := (.cons (.exp (.mth .append (.var 4) (.cons (.idx (.comp false el_hulls_paper_1 (.tup (.cons (.name 7) (.cons (.name 8) .nil))) (.enum (.var 5)) cs_hulls_paper_1 [7, 8]) (.cst (.int 0))) .nil))) .nil)
def b_hulls_paper : Ss := (.cons (.asg (.name 2) (.call i_hulls_shares (.cons (.var 0) (.cons (.var 1) .nil)))) (.cons (.iff (.cmp .eq (.call i_hulls_joined (.cons (.var 0) (.cons (.var 2) .nil))) (.bi .tuple false (.cons (.var 1) .nil))) (.cons (.ret (.tup (.cons (.cst (.str "in")) (.cons (.var 2) .nil)))) .nil) .nil) (.cons (.asg (.name 3) (.idx (.call i_hulls_wall (.cons (.var 0) (.cons (.var 1) .nil))) (.cst (.int 0)))) (.cons (.asg (.name 4) (.lst true .nil)) (.cons (.for_ (.tup (.cons (.name 5) (.cons (.name 6) .nil))) (.zip (.var 0) (.var 2)) lp_hulls_paper_0) (.cons (.ret (.tup (.cons (.cst (.str "out")) (.cons (.var 3) (.cons (.bi .tuple false (.cons (.var 4) .nil)) .nil))))) .nil))))))
def f_hulls_paper : Fn := ⟨2, 9, b_hulls_paper, 0⟩
def n_hulls_paper : List Str := ("lot" :: "vector" :: "numbers" :: "place" :: "found" :: "one" :: "number" :: "k" :: "item" :: [])
def el_hulls_judge_0 : E := (.call i_ratios_is_ratio (.cons (.var 3) .nil))
def b_hulls_judge : Ss := (.cons (.exp (.call i_hulls_check_vector (.cons (.var 0) (.cons (.var 1) .nil)))) (.cons (.iff (.or (.not (.isi (.var 2) [.tuple])) (.or (.cmp .eq (.var 2) (.tup .nil)) (.not (.isi (.idx (.var 2) (.cst (.int 0))) [.str])))) (.cons (.ret (.cst (.bl false))) .nil) .nil) (.cons (.iff (.and (.cmp .eq (.idx (.var 2) (.cst (.int 0))) (.cst (.str "out"))) (.cmp .eq (.bi .len false (.cons (.var 2) .nil)) (.cst (.int 3)))) (.cons (.ret (.call i_hulls_judge_wall (.cons (.var 0) (.cons (.var 1) (.cons (.sl false (.var 2) (.cons (.cst (.int 1)) .nil) .nil) .nil))))) .nil) .nil) (.cons (.iff (.or (.cmp .ne (.idx (.var 2) (.cst (.int 0))) (.cst (.str "in"))) (.or (.cmp .ne (.bi .len false (.cons (.var 2) .nil)) (.cst (.int 2))) (.or (.not (.isi (.idx (.var 2) (.cst (.int 1))) [.tuple])) (.cmp .ne (.bi .len false (.cons (.idx (.var 2) (.cst (.int 1))) .nil)) (.bi .len false (.cons (.var 0) .nil)))))) (.cons (.ret (.cst (.bl false))) .nil) .nil) (.cons (.ret (.and (.bi .all false (.cons (.comp false el_hulls_judge_0 (.name 3) (.of (.idx (.var 2) (.cst (.int 1)))) .nil [3]) .nil)) (.cmp .eq (.call i_hulls_joined (.cons (.var 0) (.cons (.idx (.var 2) (.cst (.int 1))) .nil))) (.bi .tuple false (.cons (.var 1) .nil))))) .nil)))))
def f_hulls_judge : Fn := ⟨3, 4, b_hulls_judge, 0⟩
def n_hulls_judge : List Str := ("lot" :: "vector" :: "answer" :: "number" :: [])
def el_w_tape_0 : E := (.bi .abs false (.cons (.bi .int false (.cons (.var 2) .nil)) .nil))
def lp_w_tape_1 : Ss := (.cons (.asg (.name 1) (.bin false .mod (.bi .int false (.cons (.bin false .add (.bin false .mul (.var 1) (.cst (.int 31))) (.var 2)) .nil)) (.cst (.int 1000003)))) .nil)
def b_w_tape : Ss := (.cons (.asg (.name 1) (.cst (.int 7))) (.cons (.for_ (.name 2) (.of (.var 0)) lp_w_tape_1) (.cons (.ret (.lst true (.cons (.comp true el_w_tape_0 (.name 2) (.of (.var 0)) .nil [2]) (.cons (.bin true .add (.var 1) (.cst (.int 1))) .nil)))) .nil)))
def f_w_tape : Fn := ⟨1, 3, b_w_tape, 2⟩
def n_w_tape : List Str := ("script" :: "seed" :: "cell" :: [])
def wc_w_draw_0 : E := (.and (.cmp .gt (.bi .len false (.cons (.var 2) .nil)) (.cst (.int 0))) (.cmp .eq (.idx (.var 2) (.cst (.int 0))) (.cst (.int 0))))
def lp_w_draw_0 : Ss := (.cons (.exp (.mth .pop (.var 2) (.cons (.cst (.int 0)) .nil))) .nil)
def b_w_draw : Ss := (.cons (.asg (.name 2) (.idx (.var 0) (.cst (.int 0)))) (.cons (.whl wc_w_draw_0 lp_w_draw_0) (.cons (.iff (.cmp .gt (.bi .len false (.cons (.var 2) .nil)) (.cst (.int 0))) (.cons (.asg (.name 3) (.idx (.var 2) (.cst (.int 0)))) (.cons (.asg (.sub (.var 2) (.cst (.int 0))) (.bin false .fdiv (.var 3) (.var 1))) (.cons (.ret (.bin false .mod (.bi .int false (.cons (.var 3) .nil)) (.var 1))) .nil))) .nil) (.cons (.asg (.sub (.var 0) (.cst (.int 1))) (.bin true .mod (.bi .int false (.cons (.bin false .add (.bin false .mul (.idx (.var 0) (.cst (.int 1))) (.cst (.int 48271))) (.cst (.int 12345))) .nil)) (.cst (.int 2147483647)))) (.cons (.ret (.bin false .mod (.bi .int false (.cons (.bin false .fdiv (.idx (.var 0) (.cst (.int 1))) (.cst (.int 64))) .nil)) (.var 1))) .nil)))))
def f_w_draw : Fn := ⟨2, 4, b_w_draw, 2⟩
def n_w_draw : List Str := ("tape" :: "many" :: "cells" :: "number" :: [])
def b_w_pick : Ss := (.cons (.ret (.idx (.var 1) (.call i_w_draw (.cons (.var 0) (.cons (.bi .len false (.cons (.var 1) .nil)) .nil))))) .nil)
def f_w_pick : Fn := ⟨2, 2, b_w_pick, 2⟩
def n_w_pick : List Str := ("tape" :: "choices" :: [])
def el_w_same_0 : E := (.call i_w_same (.cons (.idx (.var 0) (.var 2)) (.cons (.idx (.var 1) (.var 2)) .nil)))
def b_w_same : Ss := (.cons (.iff (.isN false (.var 1)) (.cons (.ret (.isN false (.var 0))) .nil) .nil) (.cons (.iff (.isi (.var 1) [.bool]) (.cons (.ret (.and (.isi (.var 0) [.bool]) (.cmp .eq (.var 0) (.var 1)))) .nil) .nil) (.cons (.iff (.isi (.var 1) [.tuple, .list]) (.cons (.iff (.or (.cmp .ne (.isi (.var 1) [.tuple]) (.isi (.var 0) [.tuple])) (.cmp .ne (.isi (.var 1) [.list]) (.isi (.var 0) [.list]))) (.cons (.ret (.cst (.bl false))) .nil) .nil) (.cons (.ret (.and (.cmp .eq (.bi .len false (.cons (.var 0) .nil)) (.bi .len false (.cons (.var 1) .nil))) (.bi .all false (.cons (.comp false el_w_same_0 (.name 2) (.range1 (.bi .len false (.cons (.var 1) .nil))) .nil [2]) .nil)))) .nil)) .nil) (.cons (.iff (.isi (.var 1) [.str]) (.cons (.ret (.and (.isi (.var 0) [.str]) (.cmp .eq (.var 0) (.var 1)))) .nil) .nil) (.cons (.ret (.and (.isi (.var 0) [.int]) (.and (.not (.isi (.var 0) [.bool])) (.cmp .eq (.var 0) (.var 1))))) .nil)))))
def f_w_same : Fn := ⟨2, 3, b_w_same, 0⟩
def n_w_same : List Str := ("actual" :: "due" :: "k" :: [])
def wc_w_make_0 : E := (.cmp .gt (.var 3) (.cst (.int 0)))
def lp_w_make_0 : Ss := (.cons (.asg (.tup (.cons (.name 2) (.cons (.name 3) .nil))) (.tup (.cons (.var 3) (.cons (.bin false .mod (.var 2) (.var 3)) .nil)))) .nil)
def b_w_make : Ss := (.cons (.asg (.tup (.cons (.name 2) (.cons (.name 3) .nil))) (.tup (.cons (.bi .abs false (.cons (.var 0) .nil)) (.cons (.bi .abs false (.cons (.var 1) .nil)) .nil)))) (.cons (.whl wc_w_make_0 lp_w_make_0) (.cons (.ret (.ite (.cmp .gt (.var 1) (.cst (.int 0))) (.tup (.cons (.bin false .fdiv (.var 0) (.var 2)) (.cons (.bin false .fdiv (.var 1) (.var 2)) .nil))) (.tup (.cons (.bin false .fdiv (.neg (.var 0)) (.var 2)) (.cons (.bin false .fdiv (.neg (.var 1)) (.var 2)) .nil))))) .nil)))
def f_w_make : Fn := ⟨2, 4, b_w_make, 0⟩
def n_w_make : List Str := ("upper" :: "lower" :: "one" :: "other" :: [])
def b_w_plus : Ss := (.cons (.ret (.call i_w_make (.cons (.bin false .add (.bin false .mul (.idx (.var 0) (.cst (.int 0))) (.idx (.var 1) (.cst (.int 1)))) (.bin false .mul (.idx (.var 1) (.cst (.int 0))) (.idx (.var 0) (.cst (.int 1))))) (.cons (.bin false .mul (.idx (.var 0) (.cst (.int 1))) (.idx (.var 1) (.cst (.int 1)))) .nil)))) .nil)
def f_w_plus : Fn := ⟨2, 2, b_w_plus, 0⟩
def n_w_plus : List Str := ("one" :: "other" :: [])
def b_w_times : Ss := (.cons (.ret (.call i_w_make (.cons (.bin false .mul (.idx (.var 0) (.cst (.int 0))) (.idx (.var 1) (.cst (.int 0)))) (.cons (.bin false .mul (.idx (.var 0) (.cst (.int 1))) (.idx (.var 1) (.cst (.int 1)))) .nil)))) .nil)
def f_w_times : Fn := ⟨2, 2, b_w_times, 0⟩
def n_w_times : List Str := ("one" :: "other" :: [])
def b_w_number : Ss := (.cons (.ret (.call i_w_make (.cons (.bin false .sub (.call i_w_draw (.cons (.var 0) (.cons (.cst (.int 13)) .nil))) (.cst (.int 6))) (.cons (.call i_w_pick (.cons (.var 0) (.cons (.lst false (.cons (.cst (.int 1)) (.cons (.cst (.int 1)) (.cons (.cst (.int 2)) (.cons (.cst (.int 3)) .nil))))) .nil))) .nil)))) .nil)
def f_w_number : Fn := ⟨1, 1, b_w_number, 2⟩
def n_w_number : List Str := ("tape" :: [])
def b_w_value : Ss := (.cons (.ret (.ite (.cmp .eq (.call i_w_draw (.cons (.var 0) (.cons (.cst (.int 5)) .nil))) (.cst (.int 0))) (.cst .non) (.call i_w_number (.cons (.var 0) .nil)))) .nil)
def f_w_value : Fn := ⟨1, 1, b_w_value, 2⟩
def n_w_value : List Str := ("tape" :: [])
def b_w_less : Ss := (.cons (.iff (.or (.isN false (.var 0)) (.isN false (.var 1))) (.cons (.ret (.and (.isN false (.var 0)) (.isN true (.var 1)))) .nil) .nil) (.cons (.ret (.cmp .lt (.bin false .mul (.idx (.var 0) (.cst (.int 0))) (.idx (.var 1) (.cst (.int 1)))) (.bin false .mul (.idx (.var 1) (.cst (.int 0))) (.idx (.var 0) (.cst (.int 1)))))) .nil))
def f_w_less : Fn := ⟨2, 2, b_w_less, 0⟩
def n_w_less : List Str := ("one" :: "other" :: [])
def b_w_minus : Ss := (.cons (.ret (.tup (.cons (.neg (.idx (.var 0) (.cst (.int 0)))) (.cons (.idx (.var 0) (.cst (.int 1))) .nil)))) .nil)
def f_w_minus : Fn := ⟨1, 1, b_w_minus, 0⟩
def n_w_minus : List Str := ("item" :: [])
def b_w_both : Ss := (.cons (.ret (.ite (.or (.isN false (.var 0)) (.isN false (.var 1))) (.cst .non) (.call i_w_plus (.cons (.var 0) (.cons (.var 1) .nil))))) .nil)
def f_w_both : Fn := ⟨2, 2, b_w_both, 0⟩
def n_w_both : List Str := ("one" :: "other" :: [])
def lp_w_most_0 : Ss := (.cons (.asg (.name 1) (.ite (.call i_w_less (.cons (.var 1) (.cons (.var 2) .nil))) (.var 2) (.var 1))) .nil)
def b_w_most : Ss := (.cons (.asg (.name 1) (.cst .non)) (.cons (.for_ (.name 2) (.of (.var 0)) lp_w_most_0) (.cons (.ret (.var 1)) .nil)))
def f_w_most : Fn := ⟨1, 3, b_w_most, 0⟩
def n_w_most : List Str := ("values" :: "found" :: "item" :: [])
def lp_w_lesser_0 : Ss := (.cons (.asg (.name 1) (.ite (.call i_w_less (.cons (.var 2) (.cons (.var 1) .nil))) (.var 2) (.var 1))) .nil)
def b_w_lesser : Ss := (.cons (.asg (.name 1) (.idx (.var 0) (.cst (.int 0)))) (.cons (.for_ (.name 2) (.of (.sl false (.var 0) (.cons (.cst (.int 1)) .nil) .nil)) lp_w_lesser_0) (.cons (.ret (.var 1)) .nil)))
def f_w_lesser : Fn := ⟨1, 3, b_w_lesser, 0⟩
def n_w_lesser : List Str := ("values" :: "found" :: "value" :: [])
def el_w_joined_1 : E := (.call i_w_plus (.cons (.idx (.var 4) (.var 3)) (.cons (.var 5) .nil)))
def el_w_joined_0 : E := (.call i_w_most (.cons (.comp false el_w_joined_1 (.tup (.cons (.name 4) (.cons (.name 5) .nil))) (.zip (.var 0) (.var 1)) .nil [4, 5]) .nil))
def b_w_joined : Ss := (.cons (.asg (.name 2) (.bi .len false (.cons (.idx (.var 0) (.cst (.int 0))) .nil))) (.cons (.ret (.bi .tuple false (.cons (.comp false el_w_joined_0 (.name 3) (.range1 (.var 2)) .nil [3]) .nil))) .nil))
def f_w_joined : Fn := ⟨2, 6, b_w_joined, 0⟩
def n_w_joined : List Str := ("lot" :: "numbers" :: "size" :: "k" :: "row" :: "number" :: [])
def lp_w_out_0 : Ss := (.cons (.iff (.not (.call i_w_less (.cons (.call i_w_plus (.cons (.idx (.var 4) (.var 2)) (.cons (.call i_w_minus (.cons (.idx (.var 4) (.var 5)) .nil)) .nil))) (.cons (.call i_w_plus (.cons (.idx (.var 1) (.var 2)) (.cons (.call i_w_minus (.cons (.idx (.var 1) (.var 5)) .nil)) .nil))) .nil)))) (.cons (.ret (.cst (.bl false))) .nil) .nil) .nil)
def b_w_out : Ss := (.cons (.for_ (.tup (.cons (.name 4) (.cons (.name 5) .nil))) (.zip (.var 0) (.var 3)) lp_w_out_0) (.cons (.ret (.cst (.bl true))) .nil))
def f_w_out : Fn := ⟨4, 6, b_w_out, 0⟩
def n_w_out : List Str := ("lot" :: "vector" :: "place" :: "places" :: "row" :: "mate" :: [])
def el_w_right_places_1 : E := (.var 4)
def cs_w_right_places_1 : Es := (.cons (.call i_w_out (.cons (.lst false (.cons (.var 3) .nil)) (.cons (.var 1) (.cons (.var 2) (.cons (.lst false (.cons (.var 4) .nil)) .nil))))) .nil)
def el_w_right_places_0 : E := (.comp false el_w_right_places_1 (.name 4) (.range1 (.bi .len false (.cons (.var 1) .nil))) cs_w_right_places_1 [4])
def b_w_right_places : Ss := (.cons (.ret (.comp false el_w_right_places_0 (.name 3) (.of (.var 0)) .nil [3])) .nil)
def f_w_right_places : Fn := ⟨3, 5, b_w_right_places, 0⟩
def n_w_right_places : List Str := ("lot" :: "vector" :: "place" :: "row" :: "mate" :: [])
def el_w_law_0 : E := (.cmp .ne (.call i_hulls_judge (.cons (.var 3) (.cons (.var 4) (.cons (.var 22) .nil)))) (.cst (.bl false)))
def el_w_law_2 : E := (.cmp .ne (.var 21) (.lst false .nil))
def lp_w_law_3 : Ss := (.cons (.iff (.not (.call i_w_same (.cons (.call i_hulls_judge (.cons (.var 3) (.cons (.var 4) (.cons (.tup (.cons (.cst (.str "out")) (.cons (.var 11) (.cons (.var 17) .nil)))) .nil)))) (.cons (.call i_w_out (.cons (.var 3) (.cons (.var 4) (.cons (.var 11) (.cons (.var 17) .nil))))) .nil)))) (.cons (.ret (.cst (.bl false))) .nil) .nil) .nil)
def el_w_law_5 : E := (.var 20)
def cs_w_law_5 : Es := (.cons (.inn true (.var 20) (.idx (.var 14) (.var 9))) .nil)
def lp_w_law_4 : Ss := (.cons (.asg (.name 18) (.comp false el_w_law_5 (.name 20) (.range1 (.var 2)) cs_w_law_5 [20])) (.cons (.iff (.cmp .ne (.var 18) (.lst false .nil)) (.cons (.exp (.mth .append (.var 15) (.cons (.bin false .add (.bin false .add (.sl false (.var 16) .nil (.cons (.var 9) .nil)) (.tup (.cons (.call i_w_pick (.cons (.var 1) (.cons (.var 18) .nil))) .nil))) (.sl false (.var 16) (.cons (.bin false .add (.var 9) (.cst (.int 1))) .nil) .nil)) .nil))) .nil) .nil) .nil))
def el_w_law_6 : E := (.ite (.cmp .ne (.var 21) (.lst false .nil)) (.call i_w_pick (.cons (.var 1) (.cons (.var 21) .nil))) (.var 11))
def el_w_law_7 : E := (.bin false .mul (.tup (.cons (.var 20) .nil)) (.bi .len false (.cons (.var 3) .nil)))
def el_w_law_9 : E := (.call i_w_draw (.cons (.var 1) (.cons (.var 2) .nil)))
def el_w_law_8 : E := (.bi .tuple false (.cons (.comp false el_w_law_9 (.name 10) (.of (.var 3)) .nil [10]) .nil))
def lp_w_law_1 : Ss := (.cons (.asg (.name 14) (.call i_w_right_places (.cons (.var 3) (.cons (.var 4) (.cons (.var 11) .nil))))) (.cons (.asg (.name 15) (.bin true .add (.comp false el_w_law_7 (.name 20) (.range1 (.var 2)) .nil [20]) (.comp false el_w_law_8 (.name 19) (.range1 (.cst (.int 4))) .nil [19]))) (.cons (.asg (.name 16) (.bi .tuple false (.cons (.comp false el_w_law_6 (.name 21) (.of (.var 14)) .nil [21]) .nil))) (.cons (.exp (.mth .append (.var 15) (.cons (.var 16) .nil))) (.cons (.for_ (.name 9) (.range1 (.bi .len false (.cons (.var 3) .nil))) lp_w_law_4) (.cons (.for_ (.name 17) (.of (.var 15)) lp_w_law_3) (.cons (.iff (.and (.var 6) (.bi .all false (.cons (.comp false el_w_law_2 (.name 21) (.of (.var 14)) .nil [21]) .nil))) (.cons (.ret (.cst (.bl false))) .nil) .nil) .nil)))))))
def lp_w_law_10 : Ss := (.cons (.iff (.not (.call i_w_same (.cons (.call i_hulls_judge (.cons (.var 3) (.cons (.var 4) (.cons (.tup (.cons (.cst (.str "in")) (.cons (.var 10) .nil))) .nil)))) (.cons (.cmp .eq (.call i_w_joined (.cons (.var 3) (.cons (.var 10) .nil))) (.var 4)) .nil)))) (.cons (.ret (.cst (.bl false))) .nil) .nil) .nil)
def lp_w_law_12 : Ss := (.cons (.exp (.mth .append (.var 8) (.cons (.bin false .add (.bin false .add (.sl false (.var 5) .nil (.cons (.var 9) .nil)) (.tup (.cons (.call i_w_plus (.cons (.idx (.var 5) (.var 9)) (.cons (.var 13) .nil))) .nil))) (.sl false (.var 5) (.cons (.bin false .add (.var 9) (.cst (.int 1))) .nil) .nil)) .nil))) .nil)
def lp_w_law_11 : Ss := (.cons (.for_ (.name 13) (.of (.lst false (.cons (.tup (.cons (.cst (.int 1)) (.cons (.cst (.int 4)) .nil))) (.cons (.tup (.cons (.neg (.cst (.int 1))) (.cons (.cst (.int 4)) .nil))) (.cons (.tup (.cons (.neg (.cst (.int 9))) (.cons (.cst (.int 1)) .nil))) .nil))))) lp_w_law_12) .nil)
def el_w_law_13 : E := (.call i_w_number (.cons (.var 1) .nil))
def el_w_law_15 : E := (.call i_w_plus (.cons (.var 23) (.cons (.call i_w_minus (.cons (.var 20) .nil)) .nil)))
def el_w_law_14 : E := (.call i_w_lesser (.cons (.comp false el_w_law_15 (.tup (.cons (.name 23) (.cons (.name 20) .nil))) (.zip (.var 4) (.var 10)) .nil [23, 20]) .nil))
def el_w_law_16 : E := (.call i_w_number (.cons (.var 1) .nil))
def el_w_law_17 : E := (.call i_w_number (.cons (.var 1) .nil))
def el_w_law_19 : E := (.call i_w_number (.cons (.var 1) .nil))
def el_w_law_18 : E := (.bi .tuple false (.cons (.comp false el_w_law_19 (.name 9) (.range1 (.var 2)) .nil [9]) .nil))
def b_w_law : Ss := (.cons (.asg (.name 1) (.call i_w_tape (.cons (.var 0) .nil))) (.cons (.asg (.name 2) (.bin false .add (.cst (.int 2)) (.call i_w_draw (.cons (.var 1) (.cons (.cst (.int 4)) .nil))))) (.cons (.asg (.name 3) (.bi .tuple false (.cons (.comp false el_w_law_18 (.name 19) (.range1 (.bin false .add (.cst (.int 1)) (.call i_w_draw (.cons (.var 1) (.cons (.cst (.int 4)) .nil))))) .nil [19]) .nil))) (.cons (.asg (.name 4) (.bi .tuple false (.cons (.comp false el_w_law_17 (.name 9) (.range1 (.var 2)) .nil [9]) .nil))) (.cons (.iff (.cmp .eq (.call i_w_draw (.cons (.var 1) (.cons (.cst (.int 2)) .nil))) (.cst (.int 0))) (.cons (.asg (.name 4) (.call i_w_joined (.cons (.var 3) (.cons (.comp false el_w_law_16 (.name 10) (.of (.var 3)) .nil [10]) .nil)))) .nil) .nil) (.cons (.asg (.name 5) (.bi .tuple false (.cons (.comp false el_w_law_14 (.name 10) (.of (.var 3)) .nil [10]) .nil))) (.cons (.asg (.name 6) (.cmp .eq (.call i_w_joined (.cons (.var 3) (.cons (.var 5) .nil))) (.var 4))) (.cons (.asg (.name 7) (.call i_hulls_paper (.cons (.var 3) (.cons (.var 4) .nil)))) (.cons (.iff (.or (.cmp .ne (.call i_hulls_judge (.cons (.var 3) (.cons (.var 4) (.cons (.var 7) .nil)))) (.cst (.bl true))) (.or (.cmp .ne (.cmp .eq (.idx (.var 7) (.cst (.int 0))) (.cst (.str "in"))) (.var 6)) (.not (.call i_w_same (.cons (.call i_hulls_is_in (.cons (.var 3) (.cons (.var 4) .nil))) (.cons (.var 6) .nil)))))) (.cons (.ret (.cst (.bl false))) .nil) .nil) (.cons (.iff (.and (.cmp .eq (.idx (.var 7) (.cst (.int 0))) (.cst (.str "out"))) (.not (.call i_w_out (.cons (.var 3) (.cons (.var 4) (.cons (.idx (.var 7) (.cst (.int 1))) (.cons (.idx (.var 7) (.cst (.int 2))) .nil))))))) (.cons (.ret (.cst (.bl false))) .nil) .nil) (.cons (.asg (.name 8) (.lst true (.cons (.var 5) (.cons (.bi .tuple false (.cons (.comp false el_w_law_13 (.name 10) (.of (.var 3)) .nil [10]) .nil)) .nil)))) (.cons (.for_ (.name 9) (.range1 (.bi .len false (.cons (.var 3) .nil))) lp_w_law_11) (.cons (.for_ (.name 10) (.of (.var 8)) lp_w_law_10) (.cons (.for_ (.name 11) (.range1 (.var 2)) lp_w_law_1) (.cons (.asg (.name 12) (.lst false (.cons (.cst .non) (.cons (.tup .nil) (.cons (.cst (.str "in")) (.cons (.tup (.cons (.cst (.str "in")) .nil)) (.cons (.tup (.cons (.cst (.str "in")) (.cons (.sl false (.var 5) (.cons (.cst (.int 1)) .nil) .nil) .nil))) (.cons (.tup (.cons (.cst (.str "in")) (.cons (.bi .list false (.cons (.var 5) .nil)) .nil))) (.cons (.tup (.cons (.cst (.str "in")) (.cons (.bin false .mul (.tup (.cons (.cst .non) .nil)) (.bi .len false (.cons (.var 3) .nil))) .nil))) (.cons (.tup (.cons (.cst (.str "out")) .nil)) (.cons (.tup (.cons (.cst (.str "out")) (.cons (.cst (.int 0)) .nil))) (.cons (.tup (.cons (.cst (.str "out")) (.cons (.var 2) (.cons (.bin false .mul (.tup (.cons (.cst (.int 0)) .nil)) (.bi .len false (.cons (.var 3) .nil))) .nil)))) (.cons (.cst (.int 0)) .nil))))))))))))) (.cons (.asg (.name 12) (.bin false .add (.var 12) (.lst false (.cons (.tup (.cons (.cst (.str "out")) (.cons (.neg (.cst (.int 1))) (.cons (.bin false .mul (.tup (.cons (.cst (.int 0)) .nil)) (.bi .len false (.cons (.var 3) .nil))) .nil)))) (.cons (.tup (.cons (.cst (.str "out")) (.cons (.cst (.int 0)) (.cons (.bin false .mul (.tup (.cons (.var 2) .nil)) (.bi .len false (.cons (.var 3) .nil))) .nil)))) (.cons (.tup (.cons (.cst (.str "out")) (.cons (.cst (.int 0)) (.cons (.bin false .mul (.tup (.cons (.cst (.int 1)) .nil)) (.bin false .add (.bi .len false (.cons (.var 3) .nil)) (.cst (.int 1)))) .nil)))) (.cons (.tup (.cons (.cst (.str "out")) (.cons (.cst (.int 0)) (.cons (.bin false .mul (.lst false (.cons (.cst (.int 1)) .nil)) (.bi .len false (.cons (.var 3) .nil))) .nil)))) (.cons (.tup (.cons (.cst (.str "both")) (.cons (.var 5) .nil))) (.cons (.cst (.bl true)) .nil))))))))) (.cons (.ret (.not (.bi .any false (.cons (.comp false el_w_law_0 (.name 22) (.of (.var 12)) .nil [22]) .nil)))) .nil)))))))))))))))))
def f_w_law : Fn := ⟨1, 24, b_w_law, 0⟩
def n_w_law : List Str := ("script" :: "tape" :: "size" :: "lot" :: "vector" :: "numbers" :: "inside" :: "told" :: "rows" :: "k" :: "row" :: "place" :: "spoilt" :: "step" :: "right" :: "answers" :: "good" :: "places" :: "wrong" :: "turn" :: "mate" :: "some" :: "bad" :: "item" :: [])
def fns : List Fn := (f_ratios_is_integer :: f_ratios_is_ratio :: f_ratios_divisor :: f_ratios_make :: f_ratios_add :: f_ratios_subtract :: f_ratios_less :: f_values_is_less :: f_values_greater :: f_values_lesser :: f_values_greatest :: f_hulls_is_lot :: f_hulls_check_lot :: f_hulls_check_vector :: f_hulls_gaps :: f_hulls_least :: f_hulls_shares :: f_hulls_joined :: f_hulls_nearest :: f_hulls_is_in :: f_hulls_types :: f_hulls_wall :: f_hulls_judge_wall :: f_hulls_paper :: f_hulls_judge :: f_w_tape :: f_w_draw :: f_w_pick :: f_w_same :: f_w_make :: f_w_plus :: f_w_times :: f_w_number :: f_w_value :: f_w_less :: f_w_minus :: f_w_both :: f_w_most :: f_w_lesser :: f_w_joined :: f_w_out :: f_w_right_places :: f_w_law :: [])
end PL.G
end
section
set_option Elab.async false
set_option linter.all false
set_option maxRecDepth 100000
namespace PL.G
open PL
/-! ratios_divisor -/
theorem gcd_loop (cal : Cal) : ∀ (b a : Nat) (h : Hpp), whl cal wc_ratios_divisor_0 lp_ratios_divisor_0 [some (.int a), some (.int b)] h = .nx [some (.int (Nat.gcd a b)), some (.int 0)] h := by
  intro b
  induction b using Nat.strongRecOn with
  | ind b ih =>
    intro a h
    rw [whl_eq]
    by_cases hb : b = 0
    · subst hb
      simp [wc_ratios_divisor_0]
    · have hb' : 0 < b := Nat.pos_of_ne_zero hb
      have e : (a : Int).fmod (b : Int) = ((a % b : Nat) : Int) := by
        rw [Int.fmod_eq_emod_of_nonneg _ (by omega)]; rfl
      have := ih (a % b) (Nat.mod_lt _ hb') b h
      rw [Nat.gcd_comm b, ← Nat.gcd_rec b a, Nat.gcd_comm] at this
      simp [wc_ratios_divisor_0, lp_ratios_divisor_0, hb, hb', e]
      exact this
theorem c_div (k : Nat) (a b : Int) (h : Hpp) : callF fns (k+1) i_ratios_divisor [.int a, .int b] h = .ok (.int (Int.gcd a b)) h := by
  rw [call0 (fn := f_ratios_divisor) k _ h rfl rfl rfl rfl]
  simp [f_ratios_divisor, b_ratios_divisor, env0, gcd_loop]
  rfl
/-! ratios_make ratios_divisor -/
theorem c_make0 (k : Nat) (n : Int) (h : Hpp) : callF fns (k+1) i_ratios_make [.int n, .int 0] h = .er x_BadNumber h := by
  rw [call0 (fn := f_ratios_make) k _ h rfl rfl rfl rfl]
  simp [f_ratios_make, b_ratios_make, env0]
theorem c_make (k : Nat) (n m : Int) (h : Hpp) (hm : m ≠ 0) (bm : Bd 8990 m) : callF fns (k+2) i_ratios_make [.int n, .int m] h = .ok (rv (Rat.divInt n m)) h := by
  rw [call0 (fn := f_ratios_make) (k+1) _ h rfl rfl rfl rfl]
  have g0 : 0 < Int.gcd n m := Int.gcd_pos_of_ne_zero_right _ hm
  have bg : Bd 8990 (Int.gcd n m) := by
    refine bm.le ?_
    have := Nat.le_of_dvd (by omega) (Int.gcd_dvd_natAbs_right n m)
    omega
  have d1 : divOk (Int.gcd n m) = true := bg.divOk (by omega) (by decide)
  have d2 : divOk (-(Int.gcd n m : Int)) = true := bg.neg.divOk (by omega) (by decide)
  obtain ⟨e1, e2⟩ := make_num (n := n) hm
  by_cases s : m < 0
  · rw [if_pos s] at e1 e2
    simp [f_ratios_make, b_ratios_make, env0, hm, s, c_div, d1, d2, rv, e1, e2]
  · rw [if_neg s] at e1 e2
    simp [f_ratios_make, b_ratios_make, env0, hm, s, c_div, d1, d2, rv, e1, e2]
/-! ratios_add ratios_make -/
theorem c_add (k : Nat) (q p : Rat) (h : Hpp) (hq : Ok q) (hp : Ok p) : callF fns (k+3) i_ratios_add [rv q, rv p] h = .ok (rv (q + p)) h := by
  rw [call0 (fn := f_ratios_add) (k+2) _ h rfl rfl rfl rfl]
  have m1 := hq.1.mulOk hp.2 (by omega)
  have m2 := hp.1.mulOk hq.2 (by omega)
  have m3 := hq.2.mulOk hp.2 (by omega)
  have i := (Is.self q).add (Is.self p)
  have c := c_make k (q.num * p.den + p.num * q.den) (q.den * p.den) [] i.1 ((hq.2.mul hp.2).mono (by decide))
  rw [← i.2] at c
  generalize q + p = z at c ⊢
  simp [f_ratios_add, b_ratios_add, env0, m1, m2, m3, c]
/-! ratios_subtract ratios_make -/
theorem c_sub (k : Nat) (q p : Rat) (h : Hpp) (hq : Ok q) (hp : Ok p) : callF fns (k+3) i_ratios_subtract [rv q, rv p] h = .ok (rv (q - p)) h := by
  rw [call0 (fn := f_ratios_subtract) (k+2) _ h rfl rfl rfl rfl]
  have m1 := hq.1.mulOk hp.2 (by omega)
  have m2 := hp.1.mulOk hq.2 (by omega)
  have m3 := hq.2.mulOk hp.2 (by omega)
  have i := (Is.self q).sub (Is.self p)
  have c := c_make k (q.num * p.den - p.num * q.den) (q.den * p.den) [] i.1 ((hq.2.mul hp.2).mono (by decide))
  rw [← i.2] at c
  generalize q - p = z at c ⊢
  simp [f_ratios_subtract, b_ratios_subtract, env0, m1, m2, m3, c]
/-! ratios_less -/
theorem c_less (k : Nat) (q p : Rat) (h : Hpp) (hq : Ok q) (hp : Ok p) : callF fns (k+1) i_ratios_less [rv q, rv p] h = .ok (.bl (decide (q < p))) h := by
  rw [call0 (fn := f_ratios_less) k _ h rfl rfl rfl rfl]
  have m1 := hq.1.mulOk hp.2 (by omega)
  have m3 := hp.1.mulOk hq.2 (by omega)
  have e : (q < p) ↔ q.num * p.den < p.num * q.den := Rat.lt_iff q p
  simp [f_ratios_less, b_ratios_less, env0, m1, m3, e]
/-! ratios_is_integer -/
theorem c_isint (k : Nat) (i : Int) (h : Hpp) : callF fns (k+1) i_ratios_is_integer [.int i] h = .ok (.bl true) h := by
  rw [call0 (fn := f_ratios_is_integer) k _ h rfl rfl rfl rfl]
  simp [f_ratios_is_integer, b_ratios_is_integer, env0]
/-- what is an integer -/
def isI : D → Bool
  | .int _ => true
  | _ => false
def noF : D → Bool
  | .fn _ => false
  | .sc _ => false
  | .ref _ => false
  | _ => true
theorem c_isintD (k : Nat) (d : D) (h : Hpp) (p : pureD d = true) (q : noF d = true) : callF fns (k+1) i_ratios_is_integer [d] h = .ok (.bl (isI d)) h := by
  rw [call0 (fn := f_ratios_is_integer) k _ h rfl rfl rfl (by simp [p])]
  cases d <;> simp_all [f_ratios_is_integer, b_ratios_is_integer, env0, isI, noF]
/-! ratios_is_ratio ratios_is_integer ratios_divisor -/
theorem c_isratio (k : Nat) (q : Rat) (h : Hpp) : callF fns (k+2) i_ratios_is_ratio [rv q] h = .ok (.bl true) h := by
  rw [call0 (fn := f_ratios_is_ratio) (k+1) _ h rfl rfl rfl rfl]
  have e : cmp1 (callF fns (k+1)) el_ratios_is_ratio_0 (.name 1) .nil [] [D.int q.num, D.int q.den] [some (rv q), none] [] = .ok [.bl true, .bl true] [] := by
    simp [cmp1_name, cmp1_nil, el_ratios_is_ratio_0, c_isint]
  have g1 : Int.gcd q.num q.den = 1 := q.reduced
  have d0 : 0 < q.den := Nat.pos_of_ne_zero q.den_nz
  simp only [rv] at e
  simp [f_ratios_is_ratio, b_ratios_is_ratio, env0, rv, e, line, c_div, g1, d0]
/-! values_is_less ratios_less -/
theorem c_isless (k : Nat) (a b : Val) (h : Hpp) (ha : OkV a) (hb : OkV b) : callF fns (k+2) i_values_is_less [ov a, ov b] h = .ok (.bl (vlt a b)) h := by
  rw [call0 (fn := f_values_is_less) (k+1) _ h rfl rfl rfl (by simp)]
  cases a with
  | none => cases b <;> simp [f_values_is_less, b_values_is_less, env0, vlt]
  | some q => cases b with
    | none => simp [f_values_is_less, b_values_is_less, env0, vlt]
    | some p =>
      have c := c_less k q p [] ha hb
      simp [f_values_is_less, b_values_is_less, env0, vlt, c]
/-! values_greater values_is_less -/
theorem c_greater (k : Nat) (a b : Val) (h : Hpp) (ha : OkV a) (hb : OkV b) : callF fns (k+3) i_values_greater [ov a, ov b] h = .ok (ov (vmax a b)) h := by
  rw [call0 (fn := f_values_greater) (k+2) _ h rfl rfl rfl (by simp)]
  have c := c_isless k a b [] ha hb
  cases e : vlt a b <;> simp [f_values_greater, b_values_greater, env0, c, vmax, e]
/-! values_lesser values_is_less -/
theorem c_lesser (k : Nat) (a b : Val) (h : Hpp) (ha : OkV a) (hb : OkV b) : callF fns (k+3) i_values_lesser [ov a, ov b] h = .ok (ov (vmin a b)) h := by
  rw [call0 (fn := f_values_lesser) (k+2) _ h rfl rfl rfl (by simp)]
  have c := c_isless k a b [] ha hb
  cases e : vlt a b <;> simp [f_values_lesser, b_values_lesser, env0, c, vmin, e]
/-! values_greatest values_greater -/
theorem OkV_foldmax {a : Val} (ha : OkV a) : ∀ {vs : List Val}, (∀ v ∈ vs, OkV v) → OkV (vs.foldl vmax a)
  | [], _ => ha
  | v :: vs, q => OkV_foldmax (OkV.max ha (q v List.mem_cons_self)) fun w hw => q w (List.mem_cons_of_mem _ hw)
theorem greatest_loop (k : Nat) (d : D) (vs : List Val) (h : Hpp) (q : ∀ v ∈ vs, OkV v) (y : Option D) :
    ∃ y', forr (callF fns (k+3)) (.name 2) lp_values_greatest_0 [] (vs.map ov) [some d, some .non, y] h = .nx [some d, some (ov (vgr vs)), y'] h := by
  obtain ⟨ρ', e, y', rfl⟩ := forr_fold (cal := callF fns (k+3)) (tg := .name 2) (b := lp_values_greatest_0) ov vmax (fun s ρ => ∃ y, ρ = [some d, some (ov s), y]) h vs none [some d, some .non, y] ⟨y, rfl⟩ (by
    rintro pre x post ρ e ⟨y, rfl⟩
    have q1 : OkV (pre.foldl vmax none) := OkV_foldmax (a := none) trivial fun v hv => q v (by rw [e]; simp [hv])
    have c := c_greater k (pre.foldl vmax none) x h q1 (q x (by rw [e]; simp))
    exact ⟨[some d, some (ov (pre.foldl vmax none)), some (ov x)], [some d, some (ov (vmax (pre.foldl vmax none) x)), some (ov x)], rfl, .inl (by simp [lp_values_greatest_0, c]), _, rfl⟩)
  exact ⟨y', e⟩
theorem c_greatest (k : Nat) (vs : List Val) (h : Hpp) (q : ∀ v ∈ vs, OkV v) : callF fns (k+4) i_values_greatest [.fl (vs.map ov)] h = .ok (ov (vgr vs)) h := by
  rw [call0 (fn := f_values_greatest) (k+3) _ h rfl rfl rfl (by simp [pureL_map])]
  obtain ⟨y', e⟩ := greatest_loop k (.fl (vs.map ov)) vs [] q none
  simp [f_values_greatest, b_values_greatest, env0, e]
theorem c_greatestT (k : Nat) (vs : List Val) (h : Hpp) (q : ∀ v ∈ vs, OkV v) : callF fns (k+4) i_values_greatest [.tup (vs.map ov)] h = .ok (ov (vgr vs)) h := by
  rw [call0 (fn := f_values_greatest) (k+3) _ h rfl rfl rfl (by simp [pureL_map])]
  obtain ⟨y', e⟩ := greatest_loop k (.tup (vs.map ov)) vs [] q none
  simp [f_values_greatest, b_values_greatest, env0, e]
end PL.G
end
section
set_option Elab.async false
set_option linter.all false
set_option maxRecDepth 100000
namespace PL.G
open PL
/-! w_tape -/
/-! the tape -/
abbrev Tp := List Int × Int
def tp (t : Tp) (r : Hpp) : Hpp := .lst (t.1.map .int) :: .lst [.ref 0, .int t.2] :: r
@[simp] theorem tp_app (t : Tp) (r x : Hpp) : tp t r ++ x = tp t (r ++ x) := rfl
@[simp] theorem tp_len (t : Tp) (r : Hpp) : (tp t r).length = r.length + 2 := rfl
theorem tp_at (t : Tp) (r : Hpp) (i : Nat) : (tp t r)[i + 2]? = r[i]? := rfl
@[simp] theorem tp_at2 (t : Tp) (r : Hpp) : (tp t r)[2]? = r[0]? := rfl
@[simp] theorem tp_at3 (t : Tp) (r : Hpp) : (tp t r)[3]? = r[1]? := rfl
@[simp] theorem tp_at4 (t : Tp) (r : Hpp) : (tp t r)[4]? = r[2]? := rfl
@[simp] theorem tp_at5 (t : Tp) (r : Hpp) : (tp t r)[5]? = r[3]? := rfl
@[simp] theorem tp_at6 (t : Tp) (r : Hpp) : (tp t r)[6]? = r[4]? := rfl
@[simp] theorem tp_at7 (t : Tp) (r : Hpp) : (tp t r)[7]? = r[5]? := rfl
@[simp] theorem tp_at8 (t : Tp) (r : Hpp) : (tp t r)[8]? = r[6]? := rfl
theorem tp_set (t : Tp) (r : Hpp) (i : Nat) (c : Cell) : (tp t r).set (i + 2) c = tp t (r.set i c) := rfl
@[simp] theorem tp_set2 (t : Tp) (r : Hpp) (c : Cell) : (tp t r).set 2 c = tp t (r.set 0 c) := rfl
@[simp] theorem tp_set3 (t : Tp) (r : Hpp) (c : Cell) : (tp t r).set 3 c = tp t (r.set 1 c) := rfl
@[simp] theorem tp_set4 (t : Tp) (r : Hpp) (c : Cell) : (tp t r).set 4 c = tp t (r.set 2 c) := rfl
@[simp] theorem tp_set5 (t : Tp) (r : Hpp) (c : Cell) : (tp t r).set 5 c = tp t (r.set 3 c) := rfl
@[simp] theorem tp_set6 (t : Tp) (r : Hpp) (c : Cell) : (tp t r).set 6 c = tp t (r.set 4 c) := rfl
@[simp] theorem tp_set7 (t : Tp) (r : Hpp) (c : Cell) : (tp t r).set 7 c = tp t (r.set 5 c) := rfl
theorem tape_loop (cal : Cal) (a : D) (h : Hpp) : ∀ (is : List Int) (s : Int) (y : Option D), ∃ s' y', forr cal (.name 2) lp_w_tape_1 [] (is.map D.int) [some a, some (.int s), y] h = .nx [some a, some (.int s'), y'] h
  | [], s, y => ⟨s, y, by simp [forr_nil]⟩
  | i :: is, s, y => by
    obtain ⟨s', y', e⟩ := tape_loop cal a h is ((s * 31 + i).fmod 1000003) (some (.int i))
    refine ⟨s', y', ?_⟩
    have m1 : mulOk s 31 = true := mulOk_small (by decide)
    have b : exs cal lp_w_tape_1 [some a, some (.int s), some (.int i)] h = .nx [some a, some (.int ((s * 31 + i).fmod 1000003)), some (.int i)] h := by simp [lp_w_tape_1, m1]
    rw [List.map_cons, forr_cons (ρ1 := [some a, some (.int s), some (.int i)]) _ _ _ _ _ _ _ _ rfl rfl, b]
    exact e
theorem c_tape (k : Nat) (is : List Int) (hl : is.length ≤ 63) : ∃ t, callF fns (k+1) i_w_tape [.sc is] [] = .ok (.ref 1) (tp t []) := by
  obtain ⟨s', y', e⟩ := tape_loop (callF fns k) (.sc is) [] is 7 none
  refine ⟨(is.map fun i => (i.natAbs : Int), s' + 1), ?_⟩
  rw [call2 (fn := f_w_tape) k _ _ rfl rfl rfl]
  have hm : cmp1 (callF fns k) el_w_tape_0 (.name 2) .nil [] (is.map D.int) [some (.sc is), some (.int s'), none] [] = .ok (is.map fun i => D.int i.natAbs) [] :=
    cmp1_m (β := Int) D.int _ rfl is fun i _ => ⟨_, rfl, by simp [el_w_tape_0]⟩
  have l : is.length ≤ line := by unfold line; omega
  simp [f_w_tape, b_w_tape, env0, srcOf, seqOf, heldOf, e, hm, l, tp]
/-! w_draw w_tape -/
theorem drop0 (cal : Cal) (x y : Option D) (s : Int) (r : Hpp) : ∀ ns : List Int, ∃ ns', whl cal wc_w_draw_0 lp_w_draw_0 [x, y, some (.ref 0), none] (tp (ns, s) r) = .nx [x, y, some (.ref 0), none] (tp (ns', s) r)
  | [] => ⟨[], by rw [whl_eq]; simp [wc_w_draw_0, tp, doBi, seqOf]⟩
  | n :: ns => by
    by_cases hn : n = 0
    · obtain ⟨ns', e⟩ := drop0 cal x y s r ns
      refine ⟨ns', ?_⟩
      rw [whl_eq]
      subst hn
      simp [wc_w_draw_0, lp_w_draw_0, tp, doBi, seqOf, item, dicOf, atI, ixN, mtRecv, lstOf, doMt, mtPop, refOf]
      simp only [wc_w_draw_0, lp_w_draw_0, tp] at e
      exact e
    · refine ⟨n :: ns, ?_⟩
      rw [whl_eq]
      simp [wc_w_draw_0, tp, doBi, seqOf, item, dicOf, atI, ixN, hn]
theorem c_draw (k : Nat) (m : Int) (m1 : 1 ≤ m) (m2 : m ≤ 10000) (t : Tp) (r : Hpp) : ∃ v t', 0 ≤ v ∧ v < m ∧ callF fns (k+1) i_w_draw [.ref 1, .int m] (tp t r) = .ok (.int v) (tp t' r) := by
  have dm : divOk m = true := Bd.divOk (e := 14) (by unfold Bd; omega) (by omega) (by decide)
  have d64 : divOk 64 = true := by decide
  have mz : m ≠ 0 := by omega
  have fm : ∀ x : Int, 0 ≤ x.fmod m ∧ x.fmod m < m := fun x => ⟨Int.fmod_nonneg_of_pos _ (by omega), Int.fmod_lt_of_pos _ (by omega)⟩
  have mk : ∀ x : Int, mulOk x 48271 = true := fun x => mulOk_small (by decide)
  obtain ⟨ns, s⟩ := t
  obtain ⟨ns', e⟩ := drop0 (callF fns k) (some (.ref 1)) (some (.int m)) s r ns
  cases ns' with
  | nil =>
    refine ⟨_, ([], (s * 48271 + 12345).fmod 2147483647), (fm (((s * 48271 + 12345).fmod 2147483647).fdiv 64)).1, (fm _).2, ?_⟩
    rw [call2 (fn := f_w_draw) k _ _ rfl rfl rfl]
    have e' := e
    simp only [tp] at e' ⊢
    simp [f_w_draw, b_w_draw, env0, item, dicOf, seqOf, atI, ixN, e', doBi, mk, asg, setItem, d64, dm, mz]
  | cons n ns' =>
    refine ⟨_, (n.fdiv m :: ns', s), (fm n).1, (fm n).2, ?_⟩
    rw [call2 (fn := f_w_draw) k _ _ rfl rfl rfl]
    have e' := e
    simp only [tp] at e' ⊢
    simp [f_w_draw, b_w_draw, env0, item, dicOf, seqOf, atI, ixN, e', doBi, asg, setItem, dm, mz]
/-- .. as a natural number -/
theorem c_drawN (k : Nat) (m : Nat) (m1 : 1 ≤ m) (m2 : m ≤ 10000) (t : Tp) (r : Hpp) : ∃ (v : Nat) (t' : Tp), v < m ∧ callF fns (k+1) i_w_draw [.ref 1, .int m] (tp t r) = .ok (.int v) (tp t' r) := by
  obtain ⟨v, t', a, b, e⟩ := c_draw k m (by omega) (by omega) t r
  refine ⟨v.toNat, t', by omega, ?_⟩
  rw [e]
  have : ((v.toNat : Nat) : Int) = v := by omega
  rw [this]
/-! w_pick w_draw -/
theorem c_pick (k : Nat) (xs : List D) (h0 : xs ≠ []) (h1 : xs.length ≤ 10000) (t : Tp) (r : Hpp) : ∃ x t', x ∈ xs ∧ callF fns (k+2) i_w_pick [.ref 1, .fl xs] (tp t r) = .ok x (tp t' r) := by
  have hp : 0 < xs.length := List.length_pos_iff.mpr h0
  obtain ⟨v, t', hv, e⟩ := c_drawN k xs.length (by omega) h1 t r
  refine ⟨xs[v], t', List.getElem_mem _, ?_⟩
  rw [call2 (fn := f_w_pick) (k+1) _ _ rfl rfl rfl]
  simp [f_w_pick, b_w_pick, env0, e, item_fl, atI_nat, List.getElem?_eq_getElem hv]
/-! w_make -/
theorem wgcd_loop (cal : Cal) (x y : Option D) : ∀ (b a : Nat) (h : Hpp), whl cal wc_w_make_0 lp_w_make_0 [x, y, some (.int a), some (.int b)] h = .nx [x, y, some (.int (Nat.gcd a b)), some (.int 0)] h := by
  intro b
  induction b using Nat.strongRecOn with
  | ind b ih =>
    intro a h
    rw [whl_eq]
    by_cases hb : b = 0
    · subst hb
      simp [wc_w_make_0]
    · have hb' : 0 < b := Nat.pos_of_ne_zero hb
      have e : (a : Int).fmod (b : Int) = ((a % b : Nat) : Int) := by
        rw [Int.fmod_eq_emod_of_nonneg _ (by omega)]; rfl
      have := ih (a % b) (Nat.mod_lt _ hb') b h
      rw [Nat.gcd_comm b, ← Nat.gcd_rec b a, Nat.gcd_comm] at this
      simp [wc_w_make_0, lp_w_make_0, hb, hb', e]
      exact this
theorem fdiv_neg_gcd {n : Int} {g : Int} (hg : 0 < g) (d : g ∣ n) : (-n).fdiv g = n.fdiv (-g) := by
  obtain ⟨a, rfl⟩ := d
  have gz : g ≠ 0 := by omega
  have h1 : -(g * a) = g * -a := by rw [Int.mul_neg]
  have h2 : g * a = -g * -a := by rw [Int.neg_mul_neg]
  rw [h1, Int.mul_fdiv_cancel_left _ gz, h2, Int.mul_fdiv_cancel_left _ (by omega)]
theorem c_wmake (k : Nat) (n m : Int) (h : Hpp) (hm : m ≠ 0) (bm : Bd 8990 m) : callF fns (k+1) i_w_make [.int n, .int m] h = .ok (rv (Rat.divInt n m)) h := by
  rw [call0 (fn := f_w_make) k _ h rfl rfl rfl rfl]
  have g0 : 0 < Int.gcd n m := Int.gcd_pos_of_ne_zero_right _ hm
  have bg : Bd 8990 (Int.gcd n m) := by
    refine bm.le ?_
    have := Nat.le_of_dvd (by omega) (Int.gcd_dvd_natAbs_right n m)
    omega
  have d1 : divOk (Int.gcd n m) = true := bg.divOk (by omega) (by decide)
  have gn : ((Nat.gcd n.natAbs m.natAbs : Nat) : Int) = (Int.gcd n m : Int) := rfl
  obtain ⟨e1, e2⟩ := make_num (n := n) hm
  have f1 := fdiv_neg_gcd (n := n) (g := (Int.gcd n m : Int)) (by omega) (Int.gcd_dvd_left ..)
  have f2 := fdiv_neg_gcd (n := m) (g := (Int.gcd n m : Int)) (by omega) (Int.gcd_dvd_right ..)
  by_cases s : m < 0
  · rw [if_pos s, ← f1] at e1
    rw [if_pos s, ← f2] at e2
    have s' : ¬ 0 < m := by omega
    simp [f_w_make, b_w_make, env0, s', wgcd_loop, gn, d1, rv, e1, e2]
  · rw [if_neg s] at e1 e2
    have s' : 0 < m := by omega
    simp [f_w_make, b_w_make, env0, s', wgcd_loop, gn, d1, rv, e1, e2]
/-! w_plus w_make -/
theorem c_wplus (k : Nat) (q p : Rat) (h : Hpp) (hq : Ok q) (hp : Ok p) : callF fns (k+2) i_w_plus [rv q, rv p] h = .ok (rv (q + p)) h := by
  rw [call0 (fn := f_w_plus) (k+1) _ h rfl rfl rfl rfl]
  have m1 := hq.1.mulOk hp.2 (by omega)
  have m2 := hp.1.mulOk hq.2 (by omega)
  have m3 := hq.2.mulOk hp.2 (by omega)
  have i := (Is.self q).add (Is.self p)
  have c := c_wmake k (q.num * p.den + p.num * q.den) (q.den * p.den) [] i.1 ((hq.2.mul hp.2).mono (by decide))
  rw [← i.2] at c
  generalize q + p = z at c ⊢
  simp [f_w_plus, b_w_plus, env0, m1, m2, m3, c]
/-! w_times w_make -/
theorem c_wtimes (k : Nat) (q p : Rat) (h : Hpp) (hq : Ok q) (hp : Ok p) : callF fns (k+2) i_w_times [rv q, rv p] h = .ok (rv (q * p)) h := by
  rw [call0 (fn := f_w_times) (k+1) _ h rfl rfl rfl rfl]
  have m1 := hq.1.mulOk hp.1 (by omega)
  have m3 := hq.2.mulOk hp.2 (by omega)
  have i := (Is.self q).mul (Is.self p)
  have c := c_wmake k (q.num * p.num) (q.den * p.den) [] i.1 ((hq.2.mul hp.2).mono (by decide))
  rw [← i.2] at c
  generalize q * p = z at c ⊢
  simp [f_w_times, b_w_times, env0, m1, m3, c]
/-! w_number#1798f2 w_make w_pick -/
/-- a drawn number: sixth parts, at most 36 -/
theorem c_number (k : Nat) (t : Tp) (r : Hpp) : ∃ (q : Rat) (t' : Tp), Dn 6 36 q ∧ callF fns (k+3) i_w_number [.ref 1] (tp t r) = .ok (rv q) (tp t' r) := by
  obtain ⟨v, t1, h0, h1, e1⟩ := c_draw (k+1) 13 (by decide) (by decide) t r
  obtain ⟨x, t2, hx, e2⟩ := c_pick k [.int 1, .int 1, .int 2, .int 3] (by simp) (by simp) t1 r
  have : ∃ m : Int, x = .int m ∧ (m = 1 ∨ m = 2 ∨ m = 3) := by
    simp at hx
    rcases hx with rfl | rfl | rfl
    · exact ⟨_, rfl, by simp⟩
    · exact ⟨_, rfl, by simp⟩
    · exact ⟨_, rfl, by simp⟩
  obtain ⟨m, rfl, hm⟩ := this
  have c := c_wmake (k+1) (v - 6) m (tp t2 r) (by omega) (by unfold Bd; rcases hm with rfl | rfl | rfl <;> decide)
  refine ⟨Rat.divInt (v - 6) m, t2, ⟨by decide, (v - 6) * (6 / m), ?_, ?_⟩, ?_⟩
  · refine (Rat.divInt_eq_divInt_iff (by omega) (by decide)).mpr ?_
    rcases hm with rfl | rfl | rfl <;> simp <;> omega
  · rcases hm with rfl | rfl | rfl <;> simp <;> omega
  · rw [call2 (fn := f_w_number) (k+2) _ _ rfl rfl rfl]
    simp [f_w_number, b_w_number, env0, e1, e2, c]
/-! w_value#ca2635 w_number#1798f2 -/
theorem c_value (k : Nat) (t : Tp) (r : Hpp) : ∃ (v : Val) (t' : Tp), DnV 6 36 v ∧ callF fns (k+4) i_w_value [.ref 1] (tp t r) = .ok (ov v) (tp t' r) := by
  obtain ⟨v, t1, h0, h1, e1⟩ := c_draw (k+2) 5 (by decide) (by decide) t r
  by_cases z : v = 0
  · subst z
    refine ⟨none, t1, trivial, ?_⟩
    rw [call2 (fn := f_w_value) (k+3) _ _ rfl rfl rfl]
    simp [f_w_value, b_w_value, env0, e1]
  · obtain ⟨q, t2, dq, e2⟩ := c_number k t1 r
    refine ⟨some q, t2, dq, ?_⟩
    rw [call2 (fn := f_w_value) (k+3) _ _ rfl rfl rfl]
    simp [f_w_value, b_w_value, env0, e1, z, e2]
/-! w_less -/
theorem c_wless (k : Nat) (a b : Val) (h : Hpp) (ha : OkV a) (hb : OkV b) : callF fns (k+1) i_w_less [ov a, ov b] h = .ok (.bl (vlt a b)) h := by
  rw [call0 (fn := f_w_less) k _ h rfl rfl rfl (by simp)]
  cases a with
  | none => cases b <;> simp [f_w_less, b_w_less, env0, vlt]
  | some q => cases b with
    | none => simp [f_w_less, b_w_less, env0, vlt]
    | some p =>
      have m1 := ha.1.mulOk hb.2 (by omega)
      have m3 := hb.1.mulOk ha.2 (by omega)
      have e : (q < p) ↔ q.num * p.den < p.num * q.den := Rat.lt_iff q p
      simp [f_w_less, b_w_less, env0, vlt, m1, m3, e]
/-! w_minus -/
theorem c_wminus (k : Nat) (q : Rat) (h : Hpp) : callF fns (k+1) i_w_minus [rv q] h = .ok (rv (-q)) h := by
  rw [call0 (fn := f_w_minus) k _ h rfl rfl rfl rfl]
  simp [f_w_minus, b_w_minus, env0]
  simp [rv]
/-! w_both w_plus -/
theorem c_wboth (k : Nat) (a b : Val) (h : Hpp) (ha : OkV a) (hb : OkV b) : callF fns (k+3) i_w_both [ov a, ov b] h = .ok (ov (vadd a b)) h := by
  rw [call0 (fn := f_w_both) (k+2) _ h rfl rfl rfl (by simp)]
  cases a with
  | none => cases b <;> simp [f_w_both, b_w_both, env0, vadd]
  | some q => cases b with
    | none => simp [f_w_both, b_w_both, env0, vadd]
    | some p =>
      have c := c_wplus k q p [] ha hb
      simp [f_w_both, b_w_both, env0, vadd, c]
/-! w_most w_less values_greatest -/
theorem most_loop (k : Nat) (d : D) (vs : List Val) (h : Hpp) (q : ∀ v ∈ vs, OkV v) (y : Option D) :
    ∃ y', forr (callF fns (k+1)) (.name 2) lp_w_most_0 [] (vs.map ov) [some d, some .non, y] h = .nx [some d, some (ov (vgr vs)), y'] h := by
  obtain ⟨ρ', e, y', rfl⟩ := forr_fold (cal := callF fns (k+1)) (tg := .name 2) (b := lp_w_most_0) ov vmax (fun s ρ => ∃ y, ρ = [some d, some (ov s), y]) h vs none [some d, some .non, y] ⟨y, rfl⟩ (by
    rintro pre x post ρ e ⟨y, rfl⟩
    have q1 : OkV (pre.foldl vmax none) := OkV_foldmax (a := none) trivial fun v hv => q v (by rw [e]; simp [hv])
    have c := c_wless k (pre.foldl vmax none) x h q1 (q x (by rw [e]; simp))
    refine ⟨[some d, some (ov (pre.foldl vmax none)), some (ov x)], [some d, some (ov (vmax (pre.foldl vmax none) x)), some (ov x)], rfl, .inl ?_, _, rfl⟩
    cases e : vlt (pre.foldl vmax none) x <;> simp [lp_w_most_0, c, vmax, e])
  exact ⟨y', e⟩
theorem c_wmost (k : Nat) (vs : List Val) (h : Hpp) (q : ∀ v ∈ vs, OkV v) : callF fns (k+2) i_w_most [.fl (vs.map ov)] h = .ok (ov (vgr vs)) h := by
  rw [call0 (fn := f_w_most) (k+1) _ h rfl rfl rfl (by simp)]
  obtain ⟨y', e⟩ := most_loop k (.fl (vs.map ov)) vs [] q none
  simp [f_w_most, b_w_most, env0, e]
theorem c_wmostT (k : Nat) (vs : List Val) (h : Hpp) (q : ∀ v ∈ vs, OkV v) : callF fns (k+2) i_w_most [.tup (vs.map ov)] h = .ok (ov (vgr vs)) h := by
  rw [call0 (fn := f_w_most) (k+1) _ h rfl rfl rfl (by simp)]
  obtain ⟨y', e⟩ := most_loop k (.tup (vs.map ov)) vs [] q none
  simp [f_w_most, b_w_most, env0, e]
/-! w_same#6512f3 -/
theorem bls_rep : ∀ {α : Type} (xs : List α), blsOf (xs.map fun _ => D.bl true) = some (xs.map fun _ => true)
  | _, [] => rfl
  | _, x :: xs => by rw [List.map_cons, blsOf_cons, bls_rep xs]; rfl
theorem all_rep {α : Type} (xs : List α) : ((xs.map fun _ => true).all id) = true := by simp
theorem same_seq (k n : Nat) (ih : ∀ (d : D) (h : Hpp), cl n d = true → callF fns (k+n+1) i_w_same [d, d] h = .ok (.bl true) h) (w : D) (xs : List D) (hx : clL n xs = true) (hw : ∀ i : Nat, item w (.int i) [] = xs[i]?) :
    cmp1 (callF fns (k+n+1)) el_w_same_0 (.name 2) .nil [] ((List.range xs.length).map fun (i : Nat) => D.int i) [some w, some w, none] [] = .ok ((List.range xs.length).map fun _ => .bl true) [] := by
  refine cmp1_m (β := Nat) _ _ rfl _ fun i hi => ?_
  have hi' : i < xs.length := List.mem_range.mp hi
  refine ⟨_, rfl, ?_⟩
  have c := ih xs[i] [] (clL_mem hx (List.getElem_mem hi'))
  simp [el_w_same_0, hw, hi', c]
theorem c_sameN : ∀ (n k : Nat) (d : D) (h : Hpp), cl n d = true → callF fns (k+n+1) i_w_same [d, d] h = .ok (.bl true) h := by
  intro n
  induction n with
  | zero =>
    intro k d h c
    rw [call0 (fn := f_w_same) (k+0) _ h rfl rfl rfl (by simp [cl_pure c])]
    cases d with
    | non => simp [f_w_same, b_w_same, env0]
    | bl b => simp [f_w_same, b_w_same, env0]
    | int i => simp [f_w_same, b_w_same, env0]
    | str s =>
      have f : fit 60 (.str s) = true := by rw [cl] at c; simpa [fit] using c
      simp [f_w_same, b_w_same, env0, pyEq_nb _ _ [] f f]
    | tup xs => simp [cl] at c
    | fl xs => simp [cl] at c
    | ref j => simp [cl] at c
    | fn f => simp [cl] at c
    | sc is => simp [cl] at c
  | succ n ih =>
    intro k d h c
    rw [call0 (fn := f_w_same) (k+(n+1)) _ h rfl rfl rfl (by simp [cl_pure c])]
    cases d with
    | non => simp [f_w_same, b_w_same, env0]
    | bl b => simp [f_w_same, b_w_same, env0]
    | int i => simp [f_w_same, b_w_same, env0]
    | str s =>
      have f : fit 60 (.str s) = true := by rw [cl] at c; simpa [fit] using c
      simp [f_w_same, b_w_same, env0, pyEq_nb _ _ [] f f]
    | tup xs =>
      simp only [cl, Bool.and_eq_true, decide_eq_true_eq] at c
      have e := same_seq k n (fun d h c => ih k d h c) (.tup xs) xs c.1 fun i => by rw [item_tup, atI_nat]
      have l : (List.range xs.length).length ≤ line := by rw [List.length_range]; unfold line; omega
      have s := src_range0 xs.length (by omega) []
      simp [f_w_same, b_w_same, env0, s, Nat.add_assoc] at e l ⊢
      simp [e, l]
    | fl xs =>
      simp only [cl, Bool.and_eq_true, decide_eq_true_eq] at c
      have e := same_seq k n (fun d h c => ih k d h c) (.fl xs) xs c.1 fun i => by rw [item_fl, atI_nat]
      have l : (List.range xs.length).length ≤ line := by rw [List.length_range]; unfold line; omega
      have s := src_range0 xs.length (by omega) []
      simp [f_w_same, b_w_same, env0, s, Nat.add_assoc] at e l ⊢
      simp [e, l]
    | ref j => simp [cl] at c
    | fn f => simp [cl] at c
    | sc is => simp [cl] at c
theorem c_same (k : Nat) (d : D) (h : Hpp) (c : cl 10 d = true) : callF fns (k+11) i_w_same [d, d] h = .ok (.bl true) h := c_sameN 10 k d h c
end PL.G
end
section
set_option Elab.async false
set_option linter.all false
set_option maxRecDepth 100000
namespace PL.G
open PL
/-! hulls_is_lot ratios_is_ratio -/
structure LotOk (lot : List (List Rat)) (n : Nat) : Prop where
  ne : lot ≠ []
  le : lot.length ≤ 10
  n1 : 1 ≤ n
  n10 : n ≤ 10
  row : ∀ r ∈ lot, r.length = n
theorem LotOk.pos {lot : List (List Rat)} {n : Nat} (L : LotOk lot n) : 0 < lot.length := List.length_pos_iff.mpr L.ne
theorem LotOk.item0 {lot : List (List Rat)} {n : Nat} (L : LotOk lot n) (h : Hpp) : ∃ r, item (lotD lot) (.int 0) h = some (rt r) ∧ r.length = n := by
  cases lot with
  | nil => exact absurd rfl L.ne
  | cons r l => exact ⟨r, by simp [lotD], L.row r List.mem_cons_self⟩
theorem ratio_map (k : Nat) (hl : List (Nat × Cell)) (i : Nat) (elt : E) (e : elt = .call i_ratios_is_ratio (.cons (.var i) .nil)) (ρ : Env) (hi : i < ρ.length) (v : List Rat) (h : Hpp) :
    cmp1 (callF fns (k+2)) elt (.name i) .nil [] (v.map rv) ρ h = .ok (v.map fun _ => .bl true) h := by
  refine cmp1_m (β := Rat) rv _ rfl v fun q _ => ⟨_, rfl, ?_⟩
  subst e
  simp [ev_varR, hi, c_isratio]
theorem c_islot (k : Nat) (lot : List (List Rat)) (n : Nat) (h : Hpp) (L : LotOk lot n) : callF fns (k+3) i_hulls_is_lot [lotD lot] h = .ok (.bl true) h := by
  obtain ⟨r0, e0, hr0⟩ := L.item0 []
  obtain ⟨ρ', e, y, rfl⟩ := forr_fold (cal := callF fns (k+2)) (tg := .name 1) (b := lp_hulls_is_lot_0) rt (fun (_ : Unit) _ => ()) (fun _ ρ => ∃ y, ρ = [some (lotD lot), y, none]) [] lot () [some (lotD lot), none, none] ⟨_, rfl⟩ (by
    rintro pre x post ρ ex ⟨y, rfl⟩
    have hx := L.row x (by rw [ex]; simp)
    have hx0 : x ≠ [] := fun z => by
      rw [z] at hx
      have := L.n1
      simp at hx
      omega
    have m := ratio_map k [] 2 el_hulls_is_lot_1 rfl [some (lotD lot), some (rt x), none] (by simp) x []
    have h10 := L.n10
    have l : x.length ≤ line := by unfold line; omega
    have ee : x.length = r0.length := by omega
    have l10' : ¬ (10 : Int) < (x.length : Int) := by omega
    refine ⟨[some (lotD lot), some (rt x), none], [some (lotD lot), some (rt x), none], rfl, .inl ?_, _, rfl⟩
    simp [lp_hulls_is_lot_0, hx0, e0, ← ee, l10', m, l])
  have l10 : ¬ (10 : Int) < (lot.length : Int) := by have := L.le; omega
  rw [call0 (fn := f_hulls_is_lot) (k+2) _ h rfl rfl rfl (by simp)]
  have ne := L.ne
  simp [f_hulls_is_lot, b_hulls_is_lot, env0, ne, l10, e]
theorem c_checklot (k : Nat) (lot : List (List Rat)) (n : Nat) (h : Hpp) (L : LotOk lot n) : callF fns (k+4) i_hulls_check_lot [lotD lot] h = .ok .non h := by
  have c := c_islot k lot n [] L
  rw [call0 (fn := f_hulls_check_lot) (k+3) _ h rfl rfl rfl (by simp)]
  simp [f_hulls_check_lot, b_hulls_check_lot, env0, c]
/-! hulls_check_vector hulls_is_lot -/
theorem c_checkvector (k : Nat) (lot : List (List Rat)) (n : Nat) (v : List Rat) (h : Hpp) (L : LotOk lot n) (hv : v.length = n) : callF fns (k+5) i_hulls_check_vector [lotD lot, rt v] h = .ok .non h := by
  have c := c_checklot k lot n [] L
  obtain ⟨r0, e0, hr0⟩ := L.item0 []
  have m := ratio_map (k+2) [] 2 el_hulls_check_vector_0 rfl [some (lotD lot), some (rt v), none] (by simp) v []
  have l : v.length ≤ line := by have := L.n10; unfold line; omega
  have ee : v.length = r0.length := by omega
  rw [call0 (fn := f_hulls_check_vector) (k+4) _ h rfl rfl rfl (by simp)]
  simp [f_hulls_check_vector, b_hulls_check_vector, env0, c, e0, ee]
  simp [m, ← ee, l]
/-! hulls_gaps ratios_subtract -/
def gapsV (a b : List Rat) : List Rat := (a.zip b).map fun p => p.1 - p.2
theorem c_gaps (k : Nat) (a b : List Rat) (h : Hpp) (ha : ∀ q ∈ a, Ok q) (hb : ∀ q ∈ b, Ok q) (la : a.length ≤ 1000) : callF fns (k+4) i_hulls_gaps [rt a, rt b] h = .ok (rt (gapsV a b)) h := by
  have m : cmp1 (callF fns (k+3)) el_hulls_gaps_0 (.tup (.cons (.name 2) (.cons (.name 3) .nil))) .nil [] ((a.zip b).map fun p => D.tup [rv p.1, rv p.2]) [some (rt a), some (rt b), none, none] [] = .ok ((a.zip b).map fun p => rv (p.1 - p.2)) [] := by
    refine cmp1_m (β := Rat) _ _ rfl _ fun p hp => ?_
    have h1 := ha p.1 (List.of_mem_zip hp).1
    have h2 := hb p.2 (List.of_mem_zip hp).2
    exact ⟨[some (rt a), some (rt b), some (rv p.1), some (rv p.2)], by simp [sto, stos], by simp [el_hulls_gaps_0, c_sub, h1, h2]⟩
  have z : srcZ (rt a) (rt b) [] = .ok ⟨(a.zip b).map fun p => D.tup [rv p.1, rv p.2], []⟩ [] := by
    rw [← zipL_map]; rfl
  have l : (a.zip b).length ≤ line := by rw [List.length_zip]; unfold line; omega
  rw [call0 (fn := f_hulls_gaps) (k+3) _ h rfl rfl rfl (by simp)]
  simp at l
  simp [f_hulls_gaps, b_hulls_gaps, env0, z, m, l]
  simp [rt, gapsV, Function.comp_def]
/-! hulls_least values_lesser -/
theorem fold_vmin (xs : List Rat) : ∀ a : Rat, (xs.map some).foldl vmin (some a) = some (xs.foldl qmin a) := by
  induction xs with
  | nil => intro a; rfl
  | cons x xs ih => intro a; rw [List.map_cons, List.foldl_cons, vmin_some, ih]; rfl
theorem Ok_foldmin {a : Rat} (ha : Ok a) : ∀ {vs : List Rat}, (∀ v ∈ vs, Ok v) → Ok (vs.foldl qmin a)
  | [], _ => ha
  | v :: vs, q => Ok_foldmin (a := qmin a v) (Ok.qmin ha (q v List.mem_cons_self)) (fun w hw => q w (List.mem_cons_of_mem _ hw))
theorem c_lesserR (k : Nat) (a b : Rat) (h : Hpp) (ha : Ok a) (hb : Ok b) : callF fns (k+3) i_values_lesser [rv a, rv b] h = .ok (rv (qmin a b)) h := by
  have := c_lesser k (some a) (some b) h ha hb
  rw [vmin_some] at this
  exact this
theorem least_loop (k : Nat) (d : D) (x : Rat) (vs : List Rat) (h : Hpp) (hx : Ok x) (q : ∀ v ∈ vs, Ok v) (y : Option D) :
    ∃ y', forr (callF fns (k+3)) (.name 2) lp_hulls_least_0 [] (vs.map rv) [some d, some (rv x), y] h = .nx [some d, some (rv (vs.foldl qmin x)), y'] h := by
  obtain ⟨ρ', e, y', rfl⟩ := forr_fold (cal := callF fns (k+3)) (tg := .name 2) (b := lp_hulls_least_0) rv qmin (fun s ρ => ∃ y, ρ = [some d, some (rv s), y]) h vs x [some d, some (rv x), y] ⟨y, rfl⟩ (by
    rintro pre w post ρ e ⟨y, rfl⟩
    have q1 : Ok (pre.foldl qmin x) := Ok_foldmin hx fun v hv => q v (by rw [e]; simp [hv])
    have c := c_lesserR k (pre.foldl qmin x) w h q1 (q w (by rw [e]; simp))
    exact ⟨[some d, some (rv (pre.foldl qmin x)), some (rv w)], [some d, some (rv (qmin (pre.foldl qmin x) w)), some (rv w)], rfl, .inl (by simp [lp_hulls_least_0, c]), _, rfl⟩)
  exact ⟨y', e⟩
theorem c_least (k : Nat) (v : List Rat) (h : Hpp) (hv : v ≠ []) (q : ∀ x ∈ v, Ok x) : callF fns (k+4) i_hulls_least [rt v] h = .ok (rv (rls v)) h := by
  cases v with
  | nil => exact absurd rfl hv
  | cons x xs =>
    obtain ⟨y', e⟩ := least_loop k (rt (x :: xs)) x xs [] (q x List.mem_cons_self) (fun w hw => q w (List.mem_cons_of_mem _ hw)) none
    rw [call0 (fn := f_hulls_least) (k+3) _ h rfl rfl rfl (by simp)]
    have i0 : item (rt (x :: xs)) (.int 0) [] = some (rv x) := by simp [rt]
    have s1 : slice false (rt (x :: xs)) (some 1) none [] = .ok (.tup (xs.map rv)) [] := by
      rw [rt, slice_tup, show (1 : Int) = ((1 : Nat) : Int) from rfl, cut_drop]; rfl
    simp [f_hulls_least, b_hulls_least, env0, i0, s1, e]
    rfl
/-! hulls_shares hulls_gaps hulls_least hulls_check_vector -/
def sharesV (lot : List (List Rat)) (v : List Rat) : List Rat := lot.map fun one => rls (gapsV v one)
theorem gapsV_ne {v one : List Rat} {n : Nat} (hv : v.length = n) (ho : one.length = n) (hn : 1 ≤ n) : gapsV v one ≠ [] := by
  intro z
  have l : (gapsV v one).length = min v.length one.length := by simp [gapsV]
  rw [z, hv, ho, Nat.min_self] at l
  simp at l
  omega
theorem c_shares (k : Nat) (lot : List (List Rat)) (n : Nat) (v : List Rat) (h : Hpp) (L : LotOk lot n) (hv : v.length = n) (ov : ∀ q ∈ v, Ok q) (ol : ∀ r ∈ lot, ∀ q ∈ r, Ok q) (og : ∀ r ∈ lot, ∀ q ∈ gapsV v r, Ok q) :
    callF fns (k+6) i_hulls_shares [lotD lot, rt v] h = .ok (rt (sharesV lot v)) h := by
  have c := c_checkvector k lot n v [] L hv
  have m : cmp1 (callF fns (k+5)) el_hulls_shares_0 (.name 2) .nil [] (lot.map rt) [some (lotD lot), some (rt v), none] [] = .ok (lot.map fun one => rv (rls (gapsV v one))) [] := by
    refine cmp1_m (β := Rat) _ _ rfl _ fun r hr => ⟨_, rfl, ?_⟩
    have g := c_gaps (k+1) v r [] ov (ol r hr) (by have := L.n10; omega)
    have l := c_least (k+1) (gapsV v r) [] (gapsV_ne hv (L.row r hr) L.n1) (og r hr)
    simp [el_hulls_shares_0, g, l]
  have l : lot.length ≤ line := by have := L.le; unfold line; omega
  have s : srcOf (lotD lot) [] = .ok ⟨lot.map rt, []⟩ [] := rfl
  rw [call0 (fn := f_hulls_shares) (k+5) _ h rfl rfl rfl (by simp)]
  simp [f_hulls_shares, b_hulls_shares, env0, c, s, m, l]
  simp [rt, sharesV, Function.comp_def]
/-! hulls_joined hulls_is_lot values_greatest ratios_add -/
def joinedV (lot : List (List Rat)) (c : List Rat) (n : Nat) : List Rat := (List.range n).map fun k => rgr ((lot.zip c).map fun p => at0 p.1 k + p.2)
def colsV (lot : List (List Rat)) (c : List Rat) : List (List Rat) := (lot.zip c).map fun p => p.1.map fun x => p.2 + x
theorem cols_get (lot : List (List Rat)) (c : List Rat) (n k : Nat) (hl : ∀ r ∈ lot, r.length = n) (hk : k < n) : (colsV lot c).map (fun r => at0 r k) = (lot.zip c).map fun p => at0 p.1 k + p.2 := by
  unfold colsV
  rw [List.map_map]
  apply List.map_congr_left
  intro p hp
  have := hl p.1 (List.of_mem_zip hp).1
  have h1 : k < p.1.length := by omega
  have h2 : k < (p.1.map fun x => p.2 + x).length := by simp; omega
  show at0 (p.1.map fun x => p.2 + x) k = _
  rw [at0_eq h2, at0_eq h1, List.getElem_map, Rat.add_comm]
theorem c_greatestR (k : Nat) (xs : List Rat) (h : Hpp) (hx : xs ≠ []) (q : ∀ x ∈ xs, Ok x) : callF fns (k+4) i_values_greatest [.fl (xs.map rv)] h = .ok (rv (rgr xs)) h := by
  have := c_greatest k (xs.map some) h (fun v hv => by obtain ⟨x, hx, rfl⟩ := List.mem_map.mp hv; exact q x hx)
  rw [vgr_some xs hx, List.map_map] at this
  exact this
theorem c_joined (k : Nat) (lot : List (List Rat)) (n : Nat) (c : List Rat) (h : Hpp) (L : LotOk lot n) (hc : c.length = lot.length) (oc : ∀ q ∈ c, Ok q) (ol : ∀ r ∈ lot, ∀ q ∈ r, Ok q) (oj : ∀ p ∈ lot.zip c, ∀ q ∈ p.1, Ok (p.2 + q)) :
    callF fns (k+6) i_hulls_joined [lotD lot, rt c] h = .ok (rt (joinedV lot c n)) h := by
  have cl := c_checklot (k+1) lot n [] L
  have m1 : cmp1 (callF fns (k+5)) el_hulls_joined_2 (.tup (.cons (.name 3) (.cons (.name 4) .nil))) .nil [] ((lot.zip c).map fun p => D.tup [rt p.1, rv p.2]) [some (lotD lot), some (rt c), none, none, none, none, none] [] = .ok ((lot.zip c).map fun p => rt (p.1.map fun x => p.2 + x)) [] := by
    refine cmp1_m (β := Rat) _ _ rfl _ fun p hp => ⟨[some (lotD lot), some (rt c), none, some (rt p.1), some (rv p.2), none, none], by simp [sto, stos], ?_⟩
    have h1 := ol p.1 (List.of_mem_zip hp).1
    have h2 := oc p.2 (List.of_mem_zip hp).2
    have m : cmp1 (callF fns (k+5)) el_hulls_joined_3 (.name 6) .nil [] (p.1.map rv) [some (lotD lot), some (rt c), none, some (rt p.1), some (rv p.2), none, none] [] = .ok (p.1.map fun x => rv (p.2 + x)) [] :=
      cmp1_m (β := Rat) _ _ rfl _ fun x hx => ⟨_, rfl, by simp [el_hulls_joined_3, c_add, h2, h1 x hx]⟩
    have l : p.1.length ≤ line := by have := L.row p.1 (List.of_mem_zip hp).1; have := L.n10; unfold line; omega
    simp [el_hulls_joined_2, m, l]
    simp [rt, Function.comp_def]
  have z : srcZ (lotD lot) (rt c) [] = .ok ⟨(lot.zip c).map fun p => D.tup [rt p.1, rv p.2], []⟩ [] := by
    rw [← zipL_map]; rfl
  have l1 : (lot.zip c).length ≤ line := by rw [List.length_zip]; have := L.le; unfold line; omega
  have m2 : cmp1 (callF fns (k+5)) el_hulls_joined_0 (.name 5) .nil [] ((List.range n).map fun (i : Nat) => D.int i) [some (lotD lot), some (rt c), some (.fl ((colsV lot c).map rt)), none, none, none, none] [] = .ok ((List.range n).map fun k => rv (rgr ((lot.zip c).map fun p => at0 p.1 k + p.2))) [] := by
    refine cmp1_m (β := Rat) _ _ rfl _ fun i hi => ⟨_, rfl, ?_⟩
    have hi' : i < n := List.mem_range.mp hi
    have rl : ∀ r ∈ colsV lot c, r.length = n := fun r hr => by
      obtain ⟨p, hp, rfl⟩ := List.mem_map.mp hr
      rw [List.length_map]
      exact L.row p.1 (List.of_mem_zip hp).1
    have m : cmp1 (callF fns (k+5)) el_hulls_joined_1 (.name 3) .nil [] ((colsV lot c).map rt) [some (lotD lot), some (rt c), some (.fl ((colsV lot c).map rt)), none, none, some (.int i), none] [] = .ok ((colsV lot c).map fun r => rv (at0 r i)) [] :=
      cmp1_m (β := Rat) _ _ rfl _ fun r hr => ⟨_, rfl, by simp [el_hulls_joined_1, item_rt, rl r hr, hi']⟩
    have e : ((colsV lot c).map fun r => rv (at0 r i)) = ((lot.zip c).map fun p => at0 p.1 i + p.2).map rv := by
      rw [← cols_get lot c n i L.row hi', List.map_map]; rfl
    have ne : ((lot.zip c).map fun p => at0 p.1 i + p.2) ≠ [] := by
      intro z
      have l := congrArg List.length z
      rw [List.length_map, List.length_zip, hc, Nat.min_self] at l
      exact absurd l (by have := L.pos; simp; exact L.ne)
    have oo : ∀ x ∈ ((lot.zip c).map fun p => at0 p.1 i + p.2), Ok x := fun x hx => by
      obtain ⟨p, hp, rfl⟩ := List.mem_map.mp hx
      rw [Rat.add_comm]
      refine oj p hp _ ?_
      have := L.row p.1 (List.of_mem_zip hp).1
      exact at0_mem (by omega)
    have g := c_greatestR (k+1) _ [] ne oo
    have l : (colsV lot c).length ≤ line := by unfold colsV; rw [List.length_map]; exact l1
    rw [e] at m
    simp only [List.map_map] at m g
    simp [el_hulls_joined_0, m, l, g]
  obtain ⟨r0, e0, hr0⟩ := L.item0 []
  have sr := src_range0 n (by have := L.n10; omega) []
  have l2 : n ≤ line := by have := L.n10; unfold line; omega
  rw [call0 (fn := f_hulls_joined) (k+5) _ h rfl rfl rfl (by simp)]
  have ec : (colsV lot c).map rt = (lot.zip c).map fun p => rt (p.1.map fun x => p.2 + x) := by unfold colsV; rw [List.map_map]; rfl
  rw [ec] at m2
  simp at l1
  simp [f_hulls_joined, b_hulls_joined, env0, cl, z, m1, l1, e0, hr0, sr, m2, l2]
  simp [rt, joinedV, Function.comp_def]
/-! hulls_nearest hulls_joined hulls_shares -/
/-- what is asked of the sizes -/
structure HullOk (lot : List (List Rat)) (n : Nat) (v : List Rat) : Prop where
  L : LotOk lot n
  hv : v.length = n
  ov : ∀ q ∈ v, Ok q
  ol : ∀ r ∈ lot, ∀ q ∈ r, Ok q
  og : ∀ r ∈ lot, ∀ q ∈ gapsV v r, Ok q
  os : ∀ q ∈ sharesV lot v, Ok q
  oj : ∀ p ∈ lot.zip (sharesV lot v), ∀ q ∈ p.1, Ok (p.2 + q)
theorem shares_len (lot : List (List Rat)) (v : List Rat) : (sharesV lot v).length = lot.length := by simp [sharesV]
theorem c_nearest (k : Nat) (lot : List (List Rat)) (n : Nat) (v : List Rat) (h : Hpp) (O : HullOk lot n v) : callF fns (k+7) i_hulls_nearest [lotD lot, rt v] h = .ok (rt (joinedV lot (sharesV lot v) n)) h := by
  have c := c_shares k lot n v [] O.L O.hv O.ov O.ol O.og
  have j := c_joined k lot n (sharesV lot v) [] O.L (shares_len lot v) O.os O.ol O.oj
  rw [call0 (fn := f_hulls_nearest) (k+6) _ h rfl rfl rfl (by simp)]
  simp [f_hulls_nearest, b_hulls_nearest, env0, c, j]
/-! hulls_is_in hulls_nearest -/
theorem c_isin (k : Nat) (lot : List (List Rat)) (n : Nat) (v : List Rat) (h : Hpp) (O : HullOk lot n v) : callF fns (k+8) i_hulls_is_in [lotD lot, rt v] h = .ok (.bl (decide (joinedV lot (sharesV lot v) n = v))) h := by
  have c := c_nearest k lot n v [] O
  rw [call0 (fn := f_hulls_is_in) (k+7) _ h rfl rfl rfl (by simp)]
  simp [f_hulls_is_in, b_hulls_is_in, env0, c]
end PL.G
end
section
set_option Elab.async false
set_option linter.all false
set_option maxRecDepth 100000
namespace PL.G
open PL
theorem mt_app {h : Hpp} {n : Nat} {xs : List D} (d : D) (e : h[n]? = some (.lst xs)) (l : xs.length < line) : doMt .append (.ref n) [d] h = .ok .non (h.set n (.lst (xs ++ [d]))) := by
  simp [doMt, mtAppend, refOf, e, l]
theorem tuple_ref {h : Hpp} {n : Nat} {xs : List D} {th : Bool} (e : h[n]? = some (.lst xs)) : doBi .tuple th [.ref n] h = .ok (.tup xs) h := by
  simp [doBi, seqOf, e]
theorem len_ref {h : Hpp} {n : Nat} {xs : List D} {th : Bool} (e : h[n]? = some (.lst xs)) : doBi .len th [.ref n] h = .ok (.int xs.length) h := by
  simp [doBi, seqOf, e]
theorem recv_app {h : Hpp} {n : Nat} {xs : List D} (e : h[n]? = some (.lst xs)) : mtRecv .append (.ref n) h = true := by
  simp [mtRecv, lstOf, e]
/-- who of the lot is tight at a place -/
def typeAt (lot : List (List Rat)) (c : List Rat) (p : Nat) (x : Rat) : List Nat := (lot.zipIdx.filter fun o => decide (at0 c o.2 + at0 o.1 p = x)).map (·.2)
def typesV (lot : List (List Rat)) (v c : List Rat) : List (List Nat) := v.zipIdx.map fun o => typeAt lot c o.2 o.1
theorem zipIdx_mem {α : Type} {xs : List α} {o : α × Nat} (h : o ∈ xs.zipIdx) : o.2 < xs.length ∧ xs[o.2]? = some o.1 := by
  obtain ⟨a, i⟩ := o
  have := List.mem_zipIdx h
  simp at this
  obtain ⟨h1, h2⟩ := this
  exact ⟨h1, by rw [List.getElem?_eq_getElem h1, ← h2]⟩
theorem zipIdx_at0 {v : List Rat} {o : Rat × Nat} (h : o ∈ v.zipIdx) : at0 v o.2 = o.1 ∧ o.2 < v.length := by
  obtain ⟨h1, h2⟩ := zipIdx_mem h
  rw [List.getElem?_eq_getElem h1] at h2
  exact ⟨(at0_eq h1).trans (Option.some.inj h2), h1⟩
theorem c_types (k : Nat) (lot : List (List Rat)) (n : Nat) (v : List Rat) (h : Hpp) (O : HullOk lot n v) :
    callF fns (k+7) i_hulls_types [lotD lot, rt v] h = .ok (.tup ((typesV lot v (sharesV lot v)).map it)) h := by
  have cs := c_shares k lot n v [] O.L O.hv O.ov O.ol O.og
  have lc := shares_len lot v
  have os := O.os
  generalize sharesV lot v = c at cs lc os ⊢
  have l10 := O.L.le
  have n10 := O.L.n10
  have hv := O.hv
  obtain ⟨ρ', h', e, ⟨rfl, y4, y5, rfl⟩⟩ := forr_all (cal := callF fns (k+6)) (tg := .tup (.cons (.name 4) (.cons (.name 5) .nil))) (b := lp_hulls_types_0) [] (fun o : Rat × Nat => D.tup [.int o.2, rv o.1]) v.zipIdx
    (fun pre ρ h => h = [.lst (pre.map fun o => it (typeAt lot c o.2 o.1))] ∧ ∃ y4 y5, ρ = [some (lotD lot), some (rt v), some (rt c), some (.ref 0), y4, y5, none, none])
    (ρ := [some (lotD lot), some (rt v), some (rt c), some (.ref 0), none, none, none, none]) (h := [.lst []]) (fun _ _ _ _ => rfl) ⟨rfl, none, none, rfl⟩ (by
      rintro pre o post ρ h e ⟨rfl, y4, y5, rfl⟩
      have ho : o ∈ v.zipIdx := by rw [e]; simp
      have hl : pre.length < v.length := by
        have := congrArg List.length e
        simp at this
        omega
      have hop := (zipIdx_at0 ho).2
      refine ⟨[some (lotD lot), some (rt v), some (rt c), some (.ref 0), some (.int o.2), some (rv o.1), none, none], [some (lotD lot), some (rt v), some (rt c), some (.ref 0), some (.int o.2), some (rv o.1), none, none], [.lst ((pre ++ [o]).map fun o => it (typeAt lot c o.2 o.1))], by simp [sto, stos], .inl ?_, rfl, _, _, rfl⟩
      generalize hh : ([.lst (pre.map fun o => it (typeAt lot c o.2 o.1))] : Hpp) = hh0
      have m : cmp1 (callF fns (k+6)) el_hulls_types_1 (.tup (.cons (.name 6) (.cons (.name 7) .nil))) cs_hulls_types_1 [] (lot.zipIdx.map fun q => D.tup [.int q.2, rt q.1]) [some (lotD lot), some (rt v), some (rt c), some (.ref 0), some (.int o.2), some (rv o.1), none, none] hh0
          = .ok ((lot.zipIdx.filter fun q => decide (at0 c q.2 + at0 q.1 o.2 = o.1)).map fun q => D.int q.2) hh0 := by
        refine cmp1_f _ _ _ rfl _ fun q hq => ?_
        obtain ⟨q1, q2⟩ := zipIdx_mem hq
        have qm : q.1 ∈ lot := List.mem_of_getElem? q2
        have ql := O.L.row q.1 qm
        have hc : at0 c q.2 ∈ c := at0_mem (by omega)
        have hr : at0 q.1 o.2 ∈ q.1 := at0_mem (by omega)
        have a := c_add (k+3) (at0 c q.2) (at0 q.1 o.2) hh0 (os _ hc) (O.ol _ qm _ hr)
        refine ⟨[some (lotD lot), some (rt v), some (rt c), some (.ref 0), some (.int o.2), some (rv o.1), some (.int q.2), some (rt q.1)], by simp [sto, stos], ?_, fun _ => ?_⟩
        · have i1 := item_rt c q.2 hh0 (by omega)
          have i2 := item_rt q.1 o.2 hh0 (by omega)
          generalize at0 c q.2 + at0 q.1 o.2 = z at a ⊢
          simp [cs_hulls_types_1, ev_varR, i1, i2, a]
        · simp [el_hulls_types_1, ev_varR]
      have sE := srcE_lot lot hh0
      have l1 : lot.zipIdx.length ≤ line := by rw [List.length_zipIdx]; unfold line; omega
      simp at l1
      have he : hh0[0]? = some (.lst (pre.map fun o => it (typeAt lot c o.2 o.1))) := by rw [← hh]; rfl
      have ra := recv_app he
      have ma := fun d => mt_app d he (by rw [List.length_map]; unfold line; omega)
      simp [lp_hulls_types_0, ev_varR, ra, sE, l1, m, ma]
      rw [← hh]
      simp [it, typeAt, Function.comp_def])
  rw [call0 (fn := f_hulls_types) (k+6) _ h rfl rfl rfl (by simp)]
  have sE := fun h => srcE_rt v h
  simp [f_hulls_types, b_hulls_types, env0, cs, sE, e, doBi, seqOf, ev_varR]
  simp [typesV, Function.comp_def]
/-! wall -/
def freeV (T : List (List Nat)) : List Nat := (T.zipIdx.filter fun q => decide (q.1 = [])).map (·.2)
theorem c_wall (k : Nat) (lot : List (List Rat)) (n : Nat) (v : List Rat) (h : Hpp) (O : HullOk lot n v) (p : Nat) (ps : List Nat) (hf : freeV (typesV lot v (sharesV lot v)) = p :: ps) :
    callF fns (k+8) i_hulls_wall [lotD lot, rt v] h = .ok (.tup [.int p, rt (joinedV lot (sharesV lot v) n)]) h := by
  have cc := c_checkvector (k+2) lot n v [] O.L O.hv
  have ct := c_types k lot n v [] O
  have cn := c_nearest k lot n v [] O
  have lT : (typesV lot v (sharesV lot v)).length = n := by simp [typesV, O.hv]
  generalize typesV lot v (sharesV lot v) = T at hf ct lT
  generalize joinedV lot (sharesV lot v) n = J at cn ⊢
  have n10 := O.L.n10
  have m : cmp1 (callF fns (k+7)) el_hulls_wall_0 (.tup (.cons (.name 3) (.cons (.name 4) .nil))) cs_hulls_wall_0 [] (T.zipIdx.map fun q => D.tup [.int q.2, it q.1]) [some (lotD lot), some (rt v), none, none, none] []
      = .ok ((T.zipIdx.filter fun q => decide (q.1 = [])).map fun q => D.int q.2) [] := by
    refine cmp1_f _ _ _ rfl _ fun q hq => ⟨[some (lotD lot), some (rt v), none, some (.int q.2), some (it q.1)], by simp [sto, stos], by simp [cs_hulls_wall_0, ev_varR], fun _ => by simp [el_hulls_wall_0, ev_varR]⟩
  have e : ((T.zipIdx.filter fun q => decide (q.1 = [])).map fun q => D.int q.2) = (freeV T).map fun (i : Nat) => D.int i := by
    simp [freeV, Function.comp_def]
  rw [e, hf] at m
  have l1 : T.length ≤ line := by unfold line; omega
  have sE : srcE (.tup (T.map it)) [] = .ok ⟨T.zipIdx.map fun q => D.tup [.int q.2, it q.1], []⟩ [] := by rw [srcE_tup, enumL_map]
  rw [call0 (fn := f_hulls_wall) (k+7) _ h rfl rfl rfl (by simp)]
  simp at m
  simp [f_hulls_wall, b_hulls_wall, env0, cc, ct, cn, sE, m, l1, item_fl, atI, ixN]
/-! paper on what is out -/
def outB (lot : List (List Rat)) (v : List Rat) (p : Nat) (os : List Nat) : Bool := (lot.zip os).all fun q => decide (at0 q.1 p - at0 q.1 q.2 < at0 v p - at0 v q.2)
theorem zip_src (lot : List (List Rat)) (os : List Nat) (h : Hpp) : srcZ (lotD lot) (it os) h = .ok ⟨(lot.zip os).map fun q => D.tup [rt q.1, .int q.2], []⟩ h := by
  show R.ok (Src.mk (zipL (lot.map rt) (os.map fun (i : Nat) => D.int i)) []) h = _
  rw [zipL_map]
theorem c_judgewall (k : Nat) (lot : List (List Rat)) (n : Nat) (v : List Rat) (p : Nat) (os : List Nat) (h : Hpp) (O : HullOk lot n v) (hp : p < n) (ho : os.length = lot.length) (hos : ∀ o ∈ os, o < n)
    (o1 : ∀ r ∈ lot, ∀ i j, i < n → j < n → Ok (at0 r i - at0 r j)) (o2 : ∀ i j, i < n → j < n → Ok (at0 v i - at0 v j)) :
    callF fns (k+6) i_hulls_judge_wall [lotD lot, rt v, .tup [.int p, it os]] h = .ok (.bl (outB lot v p os)) h := by
  have cc := c_checkvector k lot n v [] O.L O.hv
  have hv := O.hv
  have z := zip_src lot os []
  have t := forr_test (cal := callF fns (k+5)) (tg := .tup (.cons (.name 5) (.cons (.name 6) .nil))) (b := lp_hulls_judge_wall_0) [] (fun q : List Rat × Nat => D.tup [rt q.1, .int q.2])
    (fun q => decide (at0 q.1 p - at0 q.1 q.2 < at0 v p - at0 v q.2)) (.bl false)
    (fun ρ => ∃ y5 y6, ρ = [some (lotD lot), some (rt v), some (.tup [.int p, it os]), some (.int p), some (it os), y5, y6]) [] rfl (lot.zip os)
    [some (lotD lot), some (rt v), some (.tup [.int p, it os]), some (.int p), some (it os), none, none] ⟨_, _, rfl⟩ (by
      rintro q hq ρ ⟨y5, y6, rfl⟩
      have q1 := (List.of_mem_zip hq).1
      have q2 := hos _ (List.of_mem_zip hq).2
      have ql := O.L.row _ q1
      have i1 := item_rt q.1 p [] (by omega)
      have i2 := item_rt q.1 q.2 [] (by omega)
      have i3 := item_rt v p [] (by omega)
      have i4 := item_rt v q.2 [] (by omega)
      have a1 := c_sub (k+2) _ _ [] (O.ol _ q1 _ (at0_mem (v := q.1) (p := p) (by omega))) (O.ol _ q1 _ (at0_mem (v := q.1) (p := q.2) (by omega)))
      have a2 := c_sub (k+2) _ _ [] (O.ov _ (at0_mem (v := v) (p := p) (by omega))) (O.ov _ (at0_mem (v := v) (p := q.2) (by omega)))
      have a3 := c_less (k+4) _ _ [] (o1 _ q1 p q.2 hp q2) (o2 p q.2 hp q2)
      have n1 : ¬ (q.2 : Int) < 0 := by omega
      have n2 : ¬ (v.length : Int) ≤ (q.2 : Int) := by omega
      have ev : exs (callF fns (k+5)) lp_hulls_judge_wall_0 [some (lotD lot), some (rt v), some (.tup [.int p, it os]), some (.int p), some (it os), some (rt q.1), some (.int q.2)] [] = if at0 q.1 p - at0 q.1 q.2 < at0 v p - at0 v q.2 then .nx [some (lotD lot), some (rt v), some (.tup [.int p, it os]), some (.int p), some (it os), some (rt q.1), some (.int q.2)] [] else .rt (.bl false) [] := by
        generalize at0 q.1 p - at0 q.1 q.2 = z1 at a1 a3 ⊢
        generalize at0 v p - at0 v q.2 = z2 at a2 a3 ⊢
        by_cases zz : z1 < z2 <;> simp [lp_hulls_judge_wall_0, ev_varR, c_isint, n1, n2, i1, i2, i3, i4, a1, a2, a3, zz]
      refine ⟨_, by simp [sto, stos]; rfl, ?_⟩
      by_cases zz : at0 q.1 p - at0 q.1 q.2 < at0 v p - at0 v q.2
      · rw [if_pos zz] at ev
        rw [if_pos (by simpa using zz)]
        exact ⟨_, .inl ev, _, _, rfl⟩
      · rw [if_neg zz] at ev
        rw [if_neg (by simpa using zz)]
        exact ev)
  have n1 : ¬ (p : Int) < 0 := by omega
  have n2 : ¬ (v.length : Int) ≤ (p : Int) := by omega
  rw [call0 (fn := f_hulls_judge_wall) (k+5) _ h rfl rfl rfl (by simp)]
  change (if outB lot v p os = true then _ else _) at t
  by_cases b : outB lot v p os = true
  · rw [if_pos b] at t
    obtain ⟨ρ', e, y5, y6, rfl⟩ := t
    simp [f_hulls_judge_wall, b_hulls_judge_wall, env0, cc, c_isint, n1, n2, ho, z, e, b, ev_varR]
  · rw [if_neg b] at t
    simp [f_hulls_judge_wall, b_hulls_judge_wall, env0, cc, c_isint, n1, n2, ho, z, t, b, ev_varR]
/-! judge -/
theorem s_in_out : pyEq (.str "in") (.str "out") [] = some false := by rw [pyEq_str _ _ _ (by decide +kernel) (by decide +kernel)]; decide +kernel
theorem s_in_in : pyEq (.str "in") (.str "in") [] = some true := by rw [pyEq_str _ _ _ (by decide +kernel) (by decide +kernel)]; simp
theorem s_out_out : pyEq (.str "out") (.str "out") [] = some true := by rw [pyEq_str _ _ _ (by decide +kernel) (by decide +kernel)]; simp
theorem s_out_in : pyEq (.str "out") (.str "in") [] = some false := by rw [pyEq_str _ _ _ (by decide +kernel) (by decide +kernel)]; decide +kernel
theorem s_both_out : pyEq (.str "both") (.str "out") [] = some false := by rw [pyEq_str _ _ _ (by decide +kernel) (by decide +kernel)]; decide +kernel
theorem s_both_in : pyEq (.str "both") (.str "in") [] = some false := by rw [pyEq_str _ _ _ (by decide +kernel) (by decide +kernel)]; decide +kernel
theorem t_str_ne (s : Str) (xs : List D) (ys : List D) (f : fitL 59 ys = true) (hs : PySem.PyData.strOk s = true) : pyEq (.tup (.str s :: ys)) (.tup []) [] = some false := by
  unfold pyEq
  rw [res_tup, res_tup]
  have : fit 60 (.tup (.str s :: ys)) = true := by
    rw [fit, fitL, f]
    simp [fit, hs]
  rw [this]
  rfl
theorem c_judge_in (k : Nat) (lot : List (List Rat)) (n : Nat) (v c : List Rat) (h : Hpp) (O : HullOk lot n v) (hc : c.length = lot.length) (oc : ∀ q ∈ c, Ok q) (oj : ∀ p ∈ lot.zip c, ∀ q ∈ p.1, Ok (p.2 + q)) :
    callF fns (k+7) i_hulls_judge [lotD lot, rt v, .tup [.str "in", rt c]] h = .ok (.bl (decide (joinedV lot c n = v))) h := by
  have cc := c_checkvector (k+1) lot n v [] O.L O.hv
  have j := c_joined k lot n c [] O.L hc oc O.ol oj
  have m := ratio_map (k+4) [] 3 el_hulls_judge_0 rfl [some (lotD lot), some (rt v), some (.tup [.str "in", rt c]), none] (by simp) c []
  have l : lot.length ≤ line := by have := O.L.le; unfold line; omega
  have t := t_str_ne "in" [] [rt c] (by simp) (by decide +kernel)
  have i0 : item (.tup [.str "in", rt c]) (.int 0) [] = some (.str "in") := rfl
  have i1 : item (.tup [.str "in", rt c]) (.int 1) [] = some (rt c) := rfl
  rw [call0 (fn := f_hulls_judge) (k+6) _ h rfl rfl rfl (by simp)]
  simp [f_hulls_judge, b_hulls_judge, env0, cc, ev_varR, t, s_in_out, s_in_in, hc, m, l, j]
theorem c_judge_out (k : Nat) (lot : List (List Rat)) (n : Nat) (v : List Rat) (p : Nat) (os : List Nat) (h : Hpp) (O : HullOk lot n v) (hp : p < n) (ho : os.length = lot.length) (hos : ∀ o ∈ os, o < n)
    (o1 : ∀ r ∈ lot, ∀ i j, i < n → j < n → Ok (at0 r i - at0 r j)) (o2 : ∀ i j, i < n → j < n → Ok (at0 v i - at0 v j)) :
    callF fns (k+7) i_hulls_judge [lotD lot, rt v, .tup [.str "out", .int p, it os]] h = .ok (.bl (outB lot v p os)) h := by
  have cc := c_checkvector (k+1) lot n v [] O.L O.hv
  have w := c_judgewall k lot n v p os [] O hp ho hos o1 o2
  have t := t_str_ne "out" [] [.int p, it os] (by simp) (by decide +kernel)
  have s : slice false (.tup [.str "out", .int p, it os]) (some 1) none [] = .ok (.tup [.int p, it os]) [] := rfl
  rw [call0 (fn := f_hulls_judge) (k+6) _ h rfl rfl rfl (by simp)]
  simp [f_hulls_judge, b_hulls_judge, env0, cc, ev_varR, t, s_out_out, s, w]
end PL.G
end
section
set_option Elab.async false
set_option linter.all false
set_option maxRecDepth 100000
namespace PL.G
open PL
/-! the plain law: what shares do -/
theorem gapsV_at {v one : List Rat} {n : Nat} (hv : v.length = n) (ho : one.length = n) {i : Nat} (hi : i < n) : at0 v i - at0 one i ∈ gapsV v one := by
  unfold gapsV
  refine List.mem_map.mpr ⟨(at0 v i, at0 one i), ?_, rfl⟩
  rw [List.mem_iff_getElem]
  refine ⟨i, by rw [List.length_zip]; omega, ?_⟩
  rw [List.getElem_zip, at0_eq (by omega), at0_eq (by omega)]
theorem gapsV_of {v one : List Rat} {n : Nat} (hv : v.length = n) (ho : one.length = n) {x : Rat} (hx : x ∈ gapsV v one) : ∃ i, i < n ∧ x = at0 v i - at0 one i := by
  obtain ⟨p, hp, rfl⟩ := List.mem_map.mp hx
  obtain ⟨i, hi, e⟩ := List.mem_iff_getElem.mp hp
  rw [List.length_zip] at hi
  rw [List.getElem_zip] at e
  refine ⟨i, by omega, ?_⟩
  rw [at0_eq (by omega), at0_eq (by omega), ← e]
/-- the share is the least gap -/
theorem share_le {v one : List Rat} {n : Nat} (hv : v.length = n) (ho : one.length = n) {i : Nat} (hi : i < n) : rls (gapsV v one) + at0 one i ≤ at0 v i := by
  have := rls_le (gapsV_at hv ho hi)
  grind
theorem share_at {v one : List Rat} {n : Nat} (hv : v.length = n) (ho : one.length = n) (h1 : 1 ≤ n) : ∃ i, i < n ∧ rls (gapsV v one) + at0 one i = at0 v i := by
  obtain ⟨i, hi, e⟩ := gapsV_of hv ho (rls_mem (gapsV_ne hv ho h1))
  exact ⟨i, hi, by grind⟩
theorem zip_shares (lot : List (List Rat)) (v : List Rat) : lot.zip (sharesV lot v) = lot.map fun r => (r, rls (gapsV v r)) := by
  unfold sharesV
  induction lot with
  | nil => rfl
  | cons r l ih => rw [List.map_cons, List.zip_cons_cons, ih, List.map_cons]
theorem joined_at {lot : List (List Rat)} {c : List Rat} {n i : Nat} (hi : i < n) : at0 (joinedV lot c n) i = rgr ((lot.zip c).map fun p => at0 p.1 i + p.2) := by
  rw [at0_eq (by simp [joinedV]; exact hi)]
  simp [joinedV]
theorem joined_len (lot : List (List Rat)) (c : List Rat) (n : Nat) : (joinedV lot c n).length = n := by simp [joinedV]
theorem vec_ext {a b : List Rat} {n : Nat} (ha : a.length = n) (hb : b.length = n) (h : ∀ i, i < n → at0 a i = at0 b i) : a = b := by
  apply List.ext_getElem (by omega)
  intro i h1 h2
  have := h i (by omega)
  rwa [at0_eq h1, at0_eq h2] at this
/-- where the join is the vector, someone is tight -/
theorem tight_of {lot : List (List Rat)} {v : List Rat} {n i : Nat} (L : LotOk lot n) (hi : i < n) (e : at0 (joinedV lot (sharesV lot v) n) i = at0 v i) : ∃ r ∈ lot, rls (gapsV v r) + at0 r i = at0 v i := by
  rw [joined_at hi, zip_shares, List.map_map] at e
  have ne : lot.map ((fun p : List Rat × Rat => at0 p.1 i + p.2) ∘ fun r => (r, rls (gapsV v r))) ≠ [] := by simp [L.ne]
  obtain ⟨r, hr, e2⟩ := List.mem_map.mp (rgr_mem ne)
  exact ⟨r, hr, by rw [← e, ← e2]; simp; grind⟩
/-- where no one is tight, the join is less -/
theorem loose_of {lot : List (List Rat)} {v : List Rat} {n i : Nat} (L : LotOk lot n) (hv : v.length = n) (hi : i < n) (e : ¬ at0 (joinedV lot (sharesV lot v) n) i = at0 v i) : ∀ r ∈ lot, rls (gapsV v r) + at0 r i < at0 v i := by
  intro r hr
  rw [joined_at hi, zip_shares, List.map_map] at e
  have le := share_le hv (L.row r hr) hi
  have ne : lot.map ((fun p : List Rat × Rat => at0 p.1 i + p.2) ∘ fun r => (r, rls (gapsV v r))) ≠ [] := by simp [L.ne]
  obtain ⟨s, hs, e2⟩ := List.mem_map.mp (rgr_mem ne)
  have les := share_le hv (L.row s hs) hi
  have ge : at0 r i + rls (gapsV v r) ≤ rgr (lot.map ((fun p : List Rat × Rat => at0 p.1 i + p.2) ∘ fun r => (r, rls (gapsV v r)))) := rgr_le (List.mem_map.mpr ⟨r, hr, rfl⟩)
  simp only [Function.comp] at e e2 ge
  rw [← e2] at ge e
  grind
theorem share_get {lot : List (List Rat)} {v : List Rat} {q : List Rat × Nat} (hq : q ∈ lot.zipIdx) : at0 (sharesV lot v) q.2 = rls (gapsV v q.1) := by
  obtain ⟨h1, h2⟩ := zipIdx_mem hq
  unfold sharesV
  have hl : q.2 < (lot.map fun one => rls (gapsV v one)).length := by rw [List.length_map]; exact h1
  rw [at0_eq hl, List.getElem_map]
  rw [List.getElem?_eq_getElem h1] at h2
  rw [Option.some.inj h2]
theorem type_nil {lot : List (List Rat)} {v : List Rat} {p : Nat} {x : Rat} : typeAt lot (sharesV lot v) p x = [] ↔ ∀ r ∈ lot, ¬ rls (gapsV v r) + at0 r p = x := by
  unfold typeAt
  rw [List.map_eq_nil_iff, List.filter_eq_nil_iff]
  constructor
  · intro h r hr
    obtain ⟨i, hi, e⟩ := List.mem_iff_getElem.mp hr
    have hm : (r, i) ∈ lot.zipIdx := by
      rw [List.mk_mem_zipIdx_iff_getElem?, List.getElem?_eq_getElem hi, e]
    have := h (r, i) hm
    rw [share_get hm] at this
    simpa using this
  · intro h q hq
    rw [share_get hq]
    obtain ⟨h1, h2⟩ := zipIdx_mem hq
    simpa using h q.1 (List.mem_of_getElem? h2)
theorem free_mem {T : List (List Nat)} {p : Nat} (h : p ∈ freeV T) : T[p]? = some [] := by
  obtain ⟨q, hq, rfl⟩ := List.mem_map.mp h
  obtain ⟨h1, h2⟩ := List.mem_filter.mp hq
  obtain ⟨h3, h4⟩ := zipIdx_mem h1
  rw [h4]
  simpa using h2
theorem mem_free {T : List (List Nat)} {p : Nat} (h : T[p]? = some []) : p ∈ freeV T := by
  refine List.mem_map.mpr ⟨([], p), List.mem_filter.mpr ⟨?_, by simp⟩, rfl⟩
  rw [List.mk_mem_zipIdx_iff_getElem?, h]
theorem types_get {lot : List (List Rat)} {v c : List Rat} {p : Nat} (hp : p < v.length) : (typesV lot v c)[p]? = some (typeAt lot c p (at0 v p)) := by
  unfold typesV
  rw [List.getElem?_map, List.getElem?_zipIdx, List.getElem?_eq_getElem hp, at0_eq hp]
  simp
/-- a place with no one tight, where the join is not the vector -/
theorem free_of {lot : List (List Rat)} {v : List Rat} {n : Nat} (L : LotOk lot n) (hv : v.length = n) (ne : ¬ joinedV lot (sharesV lot v) n = v) :
    ∃ p ps, freeV (typesV lot v (sharesV lot v)) = p :: ps ∧ p < n ∧ ∀ r ∈ lot, rls (gapsV v r) + at0 r p < at0 v p := by
  have : ∃ i, i < n ∧ ¬ at0 (joinedV lot (sharesV lot v) n) i = at0 v i := by
    apply Classical.byContradiction
    intro z
    exact ne (vec_ext (joined_len _ _ _) hv fun i hi => Classical.byContradiction fun y => z ⟨i, hi, y⟩)
  obtain ⟨i, hi, e⟩ := this
  have hf : i ∈ freeV (typesV lot v (sharesV lot v)) := by
    apply mem_free
    rw [types_get (by omega)]
    congr 1
    rw [type_nil]
    intro r hr z
    have := loose_of L hv hi e r hr
    grind
  cases h : freeV (typesV lot v (sharesV lot v)) with
  | nil => rw [h] at hf; simp at hf
  | cons p ps =>
    have hp : p ∈ freeV (typesV lot v (sharesV lot v)) := by rw [h]; exact List.mem_cons_self
    have h1 := free_mem hp
    have hl : p < n := by
      have := (List.getElem?_eq_some_iff.mp h1).1
      simp [typesV] at this
      omega
    rw [types_get (by omega)] at h1
    have h2 := type_nil.mp (Option.some.inj h1)
    refine ⟨p, ps, rfl, hl, fun r hr => ?_⟩
    have le := share_le hv (L.row r hr) hl
    have := h2 r hr
    grind
/-! paper -/
def firstAt (v r : List Rat) (c : Rat) : List Nat := (r.zipIdx.filter fun o => decide (c + o.1 = at0 v o.2)).map (·.2)
theorem first_ne {v r : List Rat} {n : Nat} (hv : v.length = n) (hr : r.length = n) (h1 : 1 ≤ n) : ∃ f fs, firstAt v r (rls (gapsV v r)) = f :: fs ∧ f < n ∧ rls (gapsV v r) + at0 r f = at0 v f := by
  obtain ⟨i, hi, e⟩ := share_at hv hr h1
  have hm : i ∈ firstAt v r (rls (gapsV v r)) := by
    refine List.mem_map.mpr ⟨(at0 r i, i), List.mem_filter.mpr ⟨?_, by simpa using e⟩, rfl⟩
    rw [List.mk_mem_zipIdx_iff_getElem?, List.getElem?_eq_getElem (by omega), at0_eq (by omega)]
  cases h : firstAt v r (rls (gapsV v r)) with
  | nil => rw [h] at hm; simp at hm
  | cons f fs =>
    have hf : f ∈ firstAt v r (rls (gapsV v r)) := by rw [h]; exact List.mem_cons_self
    obtain ⟨q, hq, rfl⟩ := List.mem_map.mp hf
    obtain ⟨q1, q2⟩ := List.mem_filter.mp hq
    obtain ⟨q3, q4⟩ := zipIdx_at0 q1
    refine ⟨_, _, rfl, by omega, ?_⟩
    rw [q3]
    simpa using q2
def firstsV (lot : List (List Rat)) (v : List Rat) : List Nat := lot.map fun r => (firstAt v r (rls (gapsV v r))).headD 0
theorem firsts_lt {lot : List (List Rat)} {v : List Rat} {n : Nat} (L : LotOk lot n) (hv : v.length = n) : ∀ o ∈ firstsV lot v, o < n := by
  intro o ho
  obtain ⟨r, hr, rfl⟩ := List.mem_map.mp ho
  obtain ⟨f, fs, e, h1, _⟩ := first_ne hv (L.row r hr) L.n1
  rw [e]; exact h1
theorem zip_map_self {α β : Type} (f : α → β) : ∀ l : List α, l.zip (l.map f) = l.map fun a => (a, f a)
  | [] => rfl
  | a :: l => by rw [List.map_cons, List.zip_cons_cons, zip_map_self f l, List.map_cons]
theorem out_true {lot : List (List Rat)} {v : List Rat} {n p : Nat} (L : LotOk lot n) (hv : v.length = n) (hp : ∀ r ∈ lot, rls (gapsV v r) + at0 r p < at0 v p) : outB lot v p (firstsV lot v) = true := by
  unfold outB firstsV
  rw [zip_map_self, List.all_map, List.all_eq_true]
  intro r hr
  obtain ⟨f, fs, e, h1, h2⟩ := first_ne hv (L.row r hr) L.n1
  have h3 := hp r hr
  simp only [Function.comp, e, List.headD_cons, decide_eq_true_eq]
  grind
theorem c_paper_in (k : Nat) (lot : List (List Rat)) (n : Nat) (v : List Rat) (h : Hpp) (O : HullOk lot n v) (e : joinedV lot (sharesV lot v) n = v) :
    callF fns (k+9) i_hulls_paper [lotD lot, rt v] h = .ok (.tup [.str "in", rt (sharesV lot v)]) h := by
  have cs := c_shares (k+2) lot n v [] O.L O.hv O.ov O.ol O.og
  have j := c_joined (k+2) lot n (sharesV lot v) [] O.L (shares_len lot v) O.os O.ol O.oj
  rw [e] at j
  generalize sharesV lot v = c at cs j ⊢
  rw [call0 (fn := f_hulls_paper) (k+8) _ h rfl rfl rfl (by simp)]
  simp [f_hulls_paper, b_hulls_paper, env0, cs, j]
theorem c_paper_out (k : Nat) (lot : List (List Rat)) (n : Nat) (v : List Rat) (h : Hpp) (O : HullOk lot n v) (e : ¬ joinedV lot (sharesV lot v) n = v) (p : Nat) (ps : List Nat) (hf : freeV (typesV lot v (sharesV lot v)) = p :: ps) :
    callF fns (k+9) i_hulls_paper [lotD lot, rt v] h = .ok (.tup [.str "out", .int p, it (firstsV lot v)]) h := by
  have cs := c_shares (k+2) lot n v [] O.L O.hv O.ov O.ol O.og
  have j := c_joined (k+2) lot n (sharesV lot v) [] O.L (shares_len lot v) O.os O.ol O.oj
  have w := c_wall k lot n v [] O p ps hf
  have hv := O.hv
  have n10 := O.L.n10
  have z : srcZ (lotD lot) (rt (sharesV lot v)) [.lst []] = .ok ⟨lot.map fun r => D.tup [rt r, rv (rls (gapsV v r))], []⟩ [.lst []] := by
    show R.ok (Src.mk (zipL (lot.map rt) ((sharesV lot v).map rv)) []) _ = _
    rw [zipL_map, zip_shares, List.map_map]
    rfl
  obtain ⟨ρ', h', e2, ⟨rfl, y5, y6, rfl⟩⟩ := forr_all (cal := callF fns (k+8)) (tg := .tup (.cons (.name 5) (.cons (.name 6) .nil))) (b := lp_hulls_paper_0) [] (fun r : List Rat => D.tup [rt r, rv (rls (gapsV v r))]) lot
    (fun pre ρ h => h = [.lst ((firstsV pre v).map fun (i : Nat) => D.int i)] ∧ ∃ y5 y6, ρ = [some (lotD lot), some (rt v), some (rt (sharesV lot v)), some (.int p), some (.ref 0), y5, y6, none, none])
    (ρ := [some (lotD lot), some (rt v), some (rt (sharesV lot v)), some (.int p), some (.ref 0), none, none, none, none]) (h := [.lst []]) (fun _ _ _ _ => rfl) ⟨rfl, none, none, rfl⟩ (by
      rintro pre r post ρ h e ⟨rfl, y5, y6, rfl⟩
      have hr : r ∈ lot := by rw [e]; simp
      have hrl := O.L.row r hr
      obtain ⟨f, fs, ef, hf1, hf2⟩ := first_ne hv hrl O.L.n1
      have os : Ok (rls (gapsV v r)) := O.os _ (List.mem_map.mpr ⟨r, hr, rfl⟩)
      have hl : pre.length ≤ 10 := by
        have h1 := congrArg List.length e
        have := O.L.le
        simp at h1
        omega
      refine ⟨[some (lotD lot), some (rt v), some (rt (sharesV lot v)), some (.int p), some (.ref 0), some (rt r), some (rv (rls (gapsV v r))), none, none], [some (lotD lot), some (rt v), some (rt (sharesV lot v)), some (.int p), some (.ref 0), some (rt r), some (rv (rls (gapsV v r))), none, none], [.lst ((firstsV (pre ++ [r]) v).map fun (i : Nat) => D.int i)], by simp [sto, stos], .inl ?_, rfl, _, _, rfl⟩
      generalize hh : ([.lst ((firstsV pre v).map fun (i : Nat) => D.int i)] : Hpp) = hh0
      have m : cmp1 (callF fns (k+8)) el_hulls_paper_1 (.tup (.cons (.name 7) (.cons (.name 8) .nil))) cs_hulls_paper_1 [] (r.zipIdx.map fun q => D.tup [.int q.2, rv q.1]) [some (lotD lot), some (rt v), some (rt (sharesV lot v)), some (.int p), some (.ref 0), some (rt r), some (rv (rls (gapsV v r))), none, none] hh0
          = .ok ((r.zipIdx.filter fun q => decide (rls (gapsV v r) + q.1 = at0 v q.2)).map fun q => D.int q.2) hh0 := by
        refine cmp1_f _ _ _ rfl _ fun q hq => ?_
        obtain ⟨q1, q2⟩ := zipIdx_at0 hq
        have hqr : q.1 ∈ r := by rw [← q1]; exact at0_mem q2
        have a := c_add (k+5) (rls (gapsV v r)) q.1 hh0 os (O.ol r hr _ hqr)
        have i1 := item_rt v q.2 hh0 (by omega)
        refine ⟨[some (lotD lot), some (rt v), some (rt (sharesV lot v)), some (.int p), some (.ref 0), some (rt r), some (rv (rls (gapsV v r))), some (.int q.2), some (rv q.1)], by simp [sto, stos], ?_, fun _ => by simp [el_hulls_paper_1, ev_varR]⟩
        generalize rls (gapsV v r) + q.1 = z at a ⊢
        simp [cs_hulls_paper_1, ev_varR, i1, a]
      have em : ((r.zipIdx.filter fun q => decide (rls (gapsV v r) + q.1 = at0 v q.2)).map fun q => D.int q.2) = .int f :: fs.map fun (i : Nat) => D.int i := by
        have : (firstAt v r (rls (gapsV v r))).map (fun (i : Nat) => D.int i) = .int f :: fs.map fun (i : Nat) => D.int i := by rw [ef]; rfl
        rw [← this, firstAt, List.map_map]; rfl
      rw [em] at m
      have sE := srcE_rt r hh0
      have l1 : r.length ≤ line := by unfold line; omega
      have he : hh0[0]? = some (.lst ((firstsV pre v).map fun (i : Nat) => D.int i)) := by rw [← hh]; rfl
      have ra := recv_app he
      have ma := fun d => mt_app d he (by rw [List.length_map, firstsV, List.length_map]; unfold line; omega)
      have i0 : item (.fl (.int f :: fs.map fun (i : Nat) => D.int i)) (.int 0) hh0 = some (.int f) := by simp [item_fl, atI, ixN]
      simp [lp_hulls_paper_0, ev_varR, ra, sE, l1, m, ma, i0]
      rw [← hh]
      simp [firstsV, ef])
  generalize sharesV lot v = c at cs j z e2 e
  rw [call0 (fn := f_hulls_paper) (k+8) _ h rfl rfl rfl (by simp)]
  simp [f_hulls_paper, b_hulls_paper, env0, cs, j, e, w, z, e2, tuple_ref, ev_varR]
  rfl
end PL.G
end
section
set_option Elab.async false
set_option linter.all false
set_option maxRecDepth 100000
namespace PL.G
open PL
/-! the law's own -/
theorem qmin_alt (a b : Rat) : (if b < a then b else a) = qmin a b := by
  unfold qmin
  by_cases h : a < b
  · rw [if_pos h, if_neg (by grind)]
  · rw [if_neg h]
    by_cases h2 : b < a
    · rw [if_pos h2]
    · rw [if_neg h2]; grind
theorem c_wlessR (k : Nat) (q p : Rat) (h : Hpp) (hq : Ok q) (hp : Ok p) : callF fns (k+1) i_w_less [rv q, rv p] h = .ok (.bl (decide (q < p))) h := by
  have := c_wless k (some q) (some p) h hq hp
  exact this
theorem wlesser_loop (k : Nat) (d : D) (x : Rat) (vs : List Rat) (h : Hpp) (hx : Ok x) (q : ∀ v ∈ vs, Ok v) (y : Option D) :
    ∃ y', forr (callF fns (k+1)) (.name 2) lp_w_lesser_0 [] (vs.map rv) [some d, some (rv x), y] h = .nx [some d, some (rv (vs.foldl qmin x)), y'] h := by
  obtain ⟨ρ', e, y', rfl⟩ := forr_fold (cal := callF fns (k+1)) (tg := .name 2) (b := lp_w_lesser_0) rv qmin (fun s ρ => ∃ y, ρ = [some d, some (rv s), y]) h vs x [some d, some (rv x), y] ⟨y, rfl⟩ (by
    rintro pre w post ρ e ⟨y, rfl⟩
    have q1 : Ok (pre.foldl qmin x) := Ok_foldmin hx fun v hv => q v (by rw [e]; simp [hv])
    have c := c_wlessR k w (pre.foldl qmin x) h (q w (by rw [e]; simp)) q1
    refine ⟨[some d, some (rv (pre.foldl qmin x)), some (rv w)], [some d, some (rv (qmin (pre.foldl qmin x) w)), some (rv w)], rfl, .inl ?_, _, rfl⟩
    rw [← qmin_alt]
    by_cases z : w < pre.foldl qmin x <;> simp [lp_w_lesser_0, c, z])
  exact ⟨y', e⟩
theorem c_wlesser (k : Nat) (v : List Rat) (h : Hpp) (hv : v ≠ []) (q : ∀ x ∈ v, Ok x) : callF fns (k+2) i_w_lesser [.fl (v.map rv)] h = .ok (rv (rls v)) h := by
  cases v with
  | nil => exact absurd rfl hv
  | cons x xs =>
    obtain ⟨y', e⟩ := wlesser_loop k (.fl ((x :: xs).map rv)) x xs [] (q x List.mem_cons_self) (fun w hw => q w (List.mem_cons_of_mem _ hw)) none
    rw [call0 (fn := f_w_lesser) (k+1) _ h rfl rfl rfl (by simp)]
    have i0 : item (.fl (rv x :: xs.map rv)) (.int 0) [] = some (rv x) := by simp [item_fl, atI, ixN]
    have s1 : slice false (.fl (rv x :: xs.map rv)) (some 1) none [] = .ok (.fl (xs.map rv)) [] := by
      rw [slice_fl, show (1 : Int) = ((1 : Nat) : Int) from rfl, cut_drop]; rfl
    simp at e
    simp [f_w_lesser, b_w_lesser, env0, i0, s1, e]
    rfl
theorem c_wmostR (k : Nat) (xs : List Rat) (h : Hpp) (hx : xs ≠ []) (q : ∀ x ∈ xs, Ok x) : callF fns (k+2) i_w_most [.fl (xs.map rv)] h = .ok (rv (rgr xs)) h := by
  have := c_wmost k (xs.map some) h (fun v hv => by obtain ⟨x, hx, rfl⟩ := List.mem_map.mp hv; exact q x hx)
  rw [vgr_some xs hx, List.map_map] at this
  exact this
theorem c_wjoined (k : Nat) (lot : List (List Rat)) (n : Nat) (c : List Rat) (N : D) (h : Hpp) (L : LotOk lot n) (hc : c.length = lot.length) (pN : pureD N = true)
    (hN : ∀ h, srcZ (lotD lot) N h = .ok ⟨(lot.zip c).map fun p => D.tup [rt p.1, rv p.2], []⟩ h)
    (oc : ∀ q ∈ c, Ok q) (ol : ∀ r ∈ lot, ∀ q ∈ r, Ok q) (oj : ∀ p ∈ lot.zip c, ∀ q ∈ p.1, Ok (p.2 + q)) :
    callF fns (k+3) i_w_joined [lotD lot, N] h = .ok (rt (joinedV lot c n)) h := by
  have m2 : cmp1 (callF fns (k+2)) el_w_joined_0 (.name 3) .nil [] ((List.range n).map fun (i : Nat) => D.int i) [some (lotD lot), some N, some (.int n), none, none, none] [] = .ok ((List.range n).map fun k => rv (rgr ((lot.zip c).map fun p => at0 p.1 k + p.2))) [] := by
    refine cmp1_m (β := Rat) _ _ rfl _ fun i hi => ⟨_, rfl, ?_⟩
    have hi' : i < n := List.mem_range.mp hi
    have m : cmp1 (callF fns (k+2)) el_w_joined_1 (.tup (.cons (.name 4) (.cons (.name 5) .nil))) .nil [] ((lot.zip c).map fun p => D.tup [rt p.1, rv p.2]) [some (lotD lot), some N, some (.int n), some (.int i), none, none] [] = .ok ((lot.zip c).map fun p => rv (at0 p.1 i + p.2)) [] := by
      refine cmp1_m (β := Rat) _ _ rfl _ fun p hp => ⟨[some (lotD lot), some N, some (.int n), some (.int i), some (rt p.1), some (rv p.2)], by simp [sto, stos], ?_⟩
      have pm := (List.of_mem_zip hp).1
      have pl := L.row _ pm
      have i1 := item_rt p.1 i [] (by omega)
      have a := c_wplus k (at0 p.1 i) p.2 [] (ol _ pm _ (at0_mem (by omega))) (oc _ (List.of_mem_zip hp).2)
      generalize at0 p.1 i + p.2 = z at a ⊢
      simp [el_w_joined_1, i1, a]
    have ne : ((lot.zip c).map fun p => at0 p.1 i + p.2) ≠ [] := by
      intro z
      have l := congrArg List.length z
      rw [List.length_map, List.length_zip, hc, Nat.min_self] at l
      exact absurd l (by have := L.pos; simp; exact L.ne)
    have oo : ∀ x ∈ ((lot.zip c).map fun p => at0 p.1 i + p.2), Ok x := fun x hx => by
      obtain ⟨p, hp, rfl⟩ := List.mem_map.mp hx
      rw [Rat.add_comm]
      refine oj p hp _ (at0_mem ?_)
      have := L.row p.1 (List.of_mem_zip hp).1
      omega
    have g := c_wmostR k _ [] ne oo
    have e : ((lot.zip c).map fun p => rv (at0 p.1 i + p.2)) = ((lot.zip c).map fun p => at0 p.1 i + p.2).map rv := by rw [List.map_map]; rfl
    rw [e] at m
    have l : (lot.zip c).length ≤ line := by rw [List.length_zip]; have := L.le; unfold line; omega
    simp at l
    simp only [List.map_map] at m g
    simp [el_w_joined_0, hN, m, l, g]
  obtain ⟨r0, e0, hr0⟩ := L.item0 []
  have sr := src_range0 n (by have := L.n10; omega) []
  have l2 : n ≤ line := by have := L.n10; unfold line; omega
  rw [call0 (fn := f_w_joined) (k+2) _ h rfl rfl rfl (by simp [pN])]
  simp [f_w_joined, b_w_joined, env0, e0, hr0, sr, m2, l2]
  simp [rt, joinedV, Function.comp_def]
theorem zipR_src (lot : List (List Rat)) (c : List Rat) (h : Hpp) : srcZ (lotD lot) (rt c) h = .ok ⟨(lot.zip c).map fun p => D.tup [rt p.1, rv p.2], []⟩ h := by
  show R.ok (Src.mk (zipL (lot.map rt) (c.map rv)) []) h = _
  rw [zipL_map]
theorem zipF_src (lot : List (List Rat)) (c : List Rat) (h : Hpp) : srcZ (lotD lot) (.fl (c.map rv)) h = .ok ⟨(lot.zip c).map fun p => D.tup [rt p.1, rv p.2], []⟩ h := by
  show R.ok (Src.mk (zipL (lot.map rt) (c.map rv)) []) h = _
  rw [zipL_map]
/-- what is asked of the differences -/
structure DifOk (lot : List (List Rat)) (n : Nat) (v : List Rat) : Prop where
  a : ∀ r ∈ lot, ∀ i j, i < n → j < n → Ok (at0 r i - at0 r j)
  b : ∀ i j, i < n → j < n → Ok (at0 v i - at0 v j)
theorem c_wout (k : Nat) (lot : List (List Rat)) (n : Nat) (v : List Rat) (p : Nat) (os : List Nat) (L P : D) (h : Hpp) (pL : pureD L = true) (pP : pureD P = true) (hz : ∀ h, srcZ L P h = .ok ⟨(lot.zip os).map fun q => D.tup [rt q.1, .int q.2], []⟩ h)
    (hl : ∀ r ∈ lot, r.length = n) (ol : ∀ r ∈ lot, ∀ q ∈ r, Ok q) (hv : v.length = n) (ov : ∀ q ∈ v, Ok q) (hp : p < n) (hos : ∀ o ∈ os, o < n) (d : DifOk lot n v) :
    callF fns (k+3) i_w_out [L, rt v, .int p, P] h = .ok (.bl (outB lot v p os)) h := by
  have t := forr_test (cal := callF fns (k+2)) (tg := .tup (.cons (.name 4) (.cons (.name 5) .nil))) (b := lp_w_out_0) [] (fun q : List Rat × Nat => D.tup [rt q.1, .int q.2])
    (fun q => decide (at0 q.1 p - at0 q.1 q.2 < at0 v p - at0 v q.2)) (.bl false)
    (fun ρ => ∃ y5 y6, ρ = [some L, some (rt v), some (.int p), some P, y5, y6]) [] rfl (lot.zip os)
    [some L, some (rt v), some (.int p), some P, none, none] ⟨_, _, rfl⟩ (by
      rintro q hq ρ ⟨y5, y6, rfl⟩
      have q1 := (List.of_mem_zip hq).1
      have q2 := hos _ (List.of_mem_zip hq).2
      have ql := hl _ q1
      have i1 := item_rt q.1 p [] (by omega)
      have i2 := item_rt q.1 q.2 [] (by omega)
      have i3 := item_rt v p [] (by omega)
      have i4 := item_rt v q.2 [] (by omega)
      have b1 := c_wminus (k+1) (at0 q.1 q.2) []
      have b2 := c_wminus (k+1) (at0 v q.2) []
      have o2 := ol _ q1 _ (at0_mem (v := q.1) (p := q.2) (by omega))
      have o4 := ov _ (at0_mem (v := v) (p := q.2) (by omega))
      have a1 := c_wplus k (at0 q.1 p) (-(at0 q.1 q.2)) [] (ol _ q1 _ (at0_mem (v := q.1) (p := p) (by omega))) ⟨by simpa using o2.1.neg, by simpa using o2.2⟩
      have a2 := c_wplus k (at0 v p) (-(at0 v q.2)) [] (ov _ (at0_mem (v := v) (p := p) (by omega))) ⟨by simpa using o4.1.neg, by simpa using o4.2⟩
      rw [← Rat.sub_eq_add_neg] at a1 a2
      have a3 := c_wlessR (k+1) _ _ [] (d.a _ q1 p q.2 hp q2) (d.b p q.2 hp q2)
      have ev : exs (callF fns (k+2)) lp_w_out_0 [some L, some (rt v), some (.int p), some P, some (rt q.1), some (.int q.2)] [] = if at0 q.1 p - at0 q.1 q.2 < at0 v p - at0 v q.2 then .nx [some L, some (rt v), some (.int p), some P, some (rt q.1), some (.int q.2)] [] else .rt (.bl false) [] := by
        generalize at0 q.1 p - at0 q.1 q.2 = z1 at a1 a3 ⊢
        generalize at0 v p - at0 v q.2 = z2 at a2 a3 ⊢
        generalize -(at0 q.1 q.2) = w1 at a1 b1
        generalize -(at0 v q.2) = w2 at a2 b2
        by_cases zz : z1 < z2 <;> simp [lp_w_out_0, ev_varR, i1, i2, i3, i4, b1, b2, a1, a2, a3, zz]
      refine ⟨_, by simp [sto, stos]; rfl, ?_⟩
      by_cases zz : at0 q.1 p - at0 q.1 q.2 < at0 v p - at0 v q.2
      · rw [if_pos zz] at ev
        rw [if_pos (by simpa using zz)]
        exact ⟨_, .inl ev, _, _, rfl⟩
      · rw [if_neg zz] at ev
        rw [if_neg (by simpa using zz)]
        exact ev)
  rw [call0 (fn := f_w_out) (k+2) _ h rfl rfl rfl (by simp [pL, pP])]
  change (if outB lot v p os = true then _ else _) at t
  by_cases b : outB lot v p os = true
  · rw [if_pos b] at t
    obtain ⟨ρ', e, y5, y6, rfl⟩ := t
    simp [f_w_out, b_w_out, env0, hz, e, b, ev_varR]
  · rw [if_neg b] at t
    simp [f_w_out, b_w_out, env0, hz, t, b, ev_varR]
def rightAt (v r : List Rat) (n p : Nat) : List Nat := (List.range n).filter fun m => decide (at0 r p - at0 r m < at0 v p - at0 v m)
def rightD (v : List Rat) (n p : Nat) (r : List Rat) : D := .fl ((rightAt v r n p).map fun (i : Nat) => D.int i)
theorem c_wright (k : Nat) (lot : List (List Rat)) (n : Nat) (v : List Rat) (p : Nat) (h : Hpp) (O : HullOk lot n v) (hp : p < n) (d : DifOk lot n v) :
    callF fns (k+4) i_w_right_places [lotD lot, rt v, .int p] h = .ok (.fl (lot.map (rightD v n p))) h := by
  have hv := O.hv
  have n10 := O.L.n10
  have m2 : cmp1 (callF fns (k+3)) el_w_right_places_0 (.name 3) .nil [] (lot.map rt) [some (lotD lot), some (rt v), some (.int p), none, none] [] = .ok (lot.map (rightD v n p)) [] := by
    refine cmp1_m (β := Nat) _ _ rfl _ fun r hr => ⟨_, rfl, ?_⟩
    have m : cmp1 (callF fns (k+3)) el_w_right_places_1 (.name 4) cs_w_right_places_1 [] ((List.range n).map fun (i : Nat) => D.int i) [some (lotD lot), some (rt v), some (.int p), some (rt r), none] [] = .ok (((List.range n).filter fun m => decide (at0 r p - at0 r m < at0 v p - at0 v m)).map fun (i : Nat) => D.int i) [] := by
      refine cmp1_f _ _ _ rfl _ fun m hm => ⟨_, rfl, ?_, fun _ => by simp [el_w_right_places_1]⟩
      have hm' : m < n := List.mem_range.mp hm
      have o := c_wout k [r] n v p [m] (.fl [rt r]) (.fl [.int m]) [] (by simp) (by simp) (fun _ => rfl) (fun x hx => by simp at hx; rw [hx]; exact O.L.row r hr) (fun x hx => by simp at hx; rw [hx]; exact O.ol r hr) hv O.ov hp (fun o ho => by simp at ho; omega) ⟨fun x hx => by simp at hx; rw [hx]; exact d.a r hr, d.b⟩
      simp [cs_w_right_places_1, o, outB]
    have sr := src_range0 n (by omega) []
    have l : n ≤ line := by unfold line; omega
    simp [el_w_right_places_0, hv, sr, l, m]
    rfl
  have l : lot.length ≤ line := by have := O.L.le; unfold line; omega
  have pr : ∀ r, pureD (rightD v n p r) = true := fun r => by simp [rightD]
  rw [call0 (fn := f_w_right_places) (k+3) _ h rfl rfl rfl (by simp)]
  simp [f_w_right_places, b_w_right_places, env0, m2, l, pr]
end PL.G
end
section
set_option Elab.async false
set_option linter.all false
set_option maxRecDepth 100000
namespace PL.G
open PL
theorem _root_.PL.Dn.scale {L N : Nat} (m : Nat) (hm : 0 < m) {q : Rat} (h : Dn L N q) : Dn (L * m) (N * m) q := by
  obtain ⟨h0, z, rfl, hz⟩ := h
  refine ⟨Nat.mul_pos h0 hm, z * m, ?_, ?_⟩
  · refine (Rat.divInt_eq_divInt_iff (by omega) ?_).mpr ?_
    · have : 0 < L * m := Nat.mul_pos h0 hm
      omega
    · rw [Int.natCast_mul, Int.mul_comm (L : Int), Int.mul_assoc]
  · rw [Int.natAbs_mul]; exact Nat.mul_le_mul_right _ hz
structure Drawn (lot : List (List Rat)) (n : Nat) (v : List Rat) : Prop where
  L : LotOk lot n
  hv : v.length = n
  dl : ∀ r ∈ lot, ∀ q ∈ r, Dn 6 36 q
  dv : ∀ q ∈ v, Dn 6 72 q
theorem big6 : (6 : Nat) < 2 ^ 4000 := by exact Nat.lt_of_lt_of_le (show 6 < 2 ^ 3 by decide) (Nat.pow_le_pow_right (by decide) (by decide))
theorem big12 : (12 : Nat) < 2 ^ 4000 := by exact Nat.lt_of_lt_of_le (show 12 < 2 ^ 4 by decide) (Nat.pow_le_pow_right (by decide) (by decide))
theorem big400 {N : Nat} (h : N ≤ 400) : N < 2 ^ 4000 := Nat.lt_of_lt_of_le (show N < 2 ^ 9 by omega) (Nat.pow_le_pow_right (by decide) (by decide))
theorem Drawn.gap {lot : List (List Rat)} {n : Nat} {v : List Rat} (W : Drawn lot n v) {r : List Rat} (hr : r ∈ lot) : ∀ q ∈ gapsV v r, Dn 6 108 q := by
  intro q hq
  obtain ⟨i, hi, rfl⟩ := gapsV_of W.hv (W.L.row r hr) hq
  exact (W.dv _ (at0_mem (by have := W.hv; omega))).sub (W.dl r hr _ (at0_mem (by have := W.L.row r hr; omega)))
theorem Drawn.share {lot : List (List Rat)} {n : Nat} {v : List Rat} (W : Drawn lot n v) : ∀ q ∈ sharesV lot v, Dn 6 108 q := by
  intro q hq
  obtain ⟨r, hr, rfl⟩ := List.mem_map.mp hq
  exact W.gap hr _ (rls_mem (gapsV_ne W.hv (W.L.row r hr) W.L.n1))
theorem Drawn.hull {lot : List (List Rat)} {n : Nat} {v : List Rat} (W : Drawn lot n v) : HullOk lot n v where
  L := W.L
  hv := W.hv
  ov := fun q hq => (W.dv q hq).ok big6 (big400 (by decide))
  ol := fun r hr q hq => (W.dl r hr q hq).ok big6 (big400 (by decide))
  og := fun r hr q hq => (W.gap hr q hq).ok big6 (big400 (by decide))
  os := fun q hq => (W.share q hq).ok big6 (big400 (by decide))
  oj := fun p hp q hq => ((W.share p.2 (List.of_mem_zip hp).2).add (W.dl p.1 (List.of_mem_zip hp).1 q hq)).ok big6 (big400 (by decide))
theorem Drawn.dif {lot : List (List Rat)} {n : Nat} {v : List Rat} (W : Drawn lot n v) : DifOk lot n v where
  a := fun r hr i j hi hj => ((W.dl r hr _ (at0_mem (by have := W.L.row r hr; omega))).sub (W.dl r hr _ (at0_mem (by have := W.L.row r hr; omega)))).ok big6 (big400 (by decide))
  b := fun i j hi hj => ((W.dv _ (at0_mem (by have := W.hv; omega))).sub (W.dv _ (at0_mem (by have := W.hv; omega)))).ok big6 (big400 (by decide))
/-- a row of numbers that is asked about -/
structure RowD (lot : List (List Rat)) (c : List Rat) : Prop where
  l : c.length = lot.length
  d : ∀ q ∈ c, Dn 12 324 q
theorem RowD.ok {lot : List (List Rat)} {c : List Rat} (R : RowD lot c) : ∀ q ∈ c, Ok q := fun q hq => (R.d q hq).ok big12 (big400 (by decide))
theorem RowD.oj {lot : List (List Rat)} {n : Nat} {v c : List Rat} (W : Drawn lot n v) (R : RowD lot c) : ∀ p ∈ lot.zip c, ∀ q ∈ p.1, Ok (p.2 + q) := fun p hp q hq =>
  ((R.d p.2 (List.of_mem_zip hp).2).add ((W.dl p.1 (List.of_mem_zip hp).1 q hq).scale 2 (by decide))).ok big12 (big400 (by decide))
/-! the slots -/
def upd (f : Nat → Option D) (i : Nat) (d : Option D) : Nat → Option D := fun j => if j = i then d else f j
def EV (n : Nat) (lot : List (List Rat)) (v c : List Rat) (ins : Bool) (sc told rows : D) (f : Nat → Option D) : Env :=
  [some sc, some (.ref 1), some (.int n), some (lotD lot), some (rt v), some (rt c), some (.bl ins), some told, some rows, f 9, f 10, f 11, f 12, f 13, f 14, f 15, f 16, f 17, f 18, f 19, f 20, f 21, f 22, f 23]
section
variable {n : Nat} {lot : List (List Rat)} {v c : List Rat} {ins : Bool} {sc told rows : D}
theorem cut_rt (c : List Rat) (k : Nat) (h : Hpp) : slice false (rt c) none (some (k : Int)) h = .ok (rt (c.take k)) h := by
  rw [rt, slice_tup, cut_map, cut_take]; rfl
theorem cut_rt2 (c : List Rat) (k : Nat) (h : Hpp) : slice false (rt c) (some ((k : Int) + 1)) none h = .ok (rt (c.drop (k + 1))) h := by
  rw [rt, slice_tup, show (k : Int) + 1 = ((k + 1 : Nat) : Int) by omega, cut_map, cut_drop]; rfl
theorem add_rt (a b : List Rat) (h : Hpp) (l : a.length + b.length ≤ 1000) : bop .add false (rt a) (rt b) h = .ok (rt (a ++ b)) h := by
  rw [rt, rt, bop_tup _ _ _ (by simp; unfold line; omega), ← List.map_append]; rfl
theorem rt_one (x : Rat) : (.tup [rv x] : D) = rt [x] := rfl
/-- one more row -/
theorem row_more (k : Nat) (W : Drawn lot n v) (hc : ∀ q ∈ c, Dn 12 216 q) (lc : c.length = lot.length) (j : Nat) (hj : j < lot.length) (s : Rat) (hs : Dn 12 108 s) (f : Nat → Option PL.D) (f9 : f 9 = some (.int j)) (f13 : f 13 = some (rv s)) (t : Tp) (rs : List (List Rat)) (hr : ∀ r ∈ rs, RowD lot r) (hl : rs.length ≤ 100) :
    ∃ r, RowD lot r ∧ exs (callF fns (k+3)) lp_w_law_12 (EV n lot v c ins sc told (.ref 2) f) (tp t [.lst (rs.map rt)]) = .nx (EV n lot v c ins sc told (.ref 2) f) (tp t [.lst ((rs ++ [r]).map rt)]) := by
  have hj' : j < c.length := by omega
  have dc := hc _ (at0_mem hj')
  refine ⟨c.take j ++ [at0 c j + s] ++ c.drop (j + 1), ⟨by simp; omega, fun q hq => ?_⟩, ?_⟩
  · simp only [List.mem_append, List.mem_singleton] at hq
    rcases hq with (hq | rfl) | hq
    · exact (hc q (List.mem_of_mem_take hq)).mono (by decide)
    · exact dc.add hs
    · exact (hc q (List.mem_of_mem_drop hq)).mono (by decide)
  · have l10 := W.L.le
    have i1 := fun h => item_rt c j h hj'
    have a := fun h => c_wplus (k+1) (at0 c j) s h (dc.ok big12 (big400 (by decide))) (hs.ok big12 (big400 (by decide)))
    have b1 := fun h => add_rt (c.take j) [at0 c j + s] h (by simp; omega)
    have b2 := fun h => add_rt (c.take j ++ [at0 c j + s]) (c.drop (j + 1)) h (by simp; omega)
    have rl : rs.length < line := by unfold line; omega
    have e0 : (tp t [.lst (rs.map rt)])[2]? = some (.lst (rs.map rt)) := rfl
    have ra := recv_app e0
    have ma := fun d => mt_app d e0 (by rw [List.length_map]; exact rl)
    simp only [List.append_assoc] at b2
    generalize at0 c j + s = z at a b1 b2 ⊢
    simp [lp_w_law_12, EV, ev_varR, f9, f13, ra, cut_rt, cut_rt2, i1, a, rt_one, b1, b2, ma]
theorem s_q1 : rv (mkRat 1 4) = .tup [.int 1, .int 4] := by decide +kernel
theorem s_q2 : rv (mkRat (-1) 4) = .tup [.int (-1), .int 4] := by decide +kernel
theorem s_q3 : rv (mkRat (-9) 1) = .tup [.int (-9), .int 1] := by decide +kernel
theorem rows_loop (k : Nat) (W : Drawn lot n v) (hc : ∀ q ∈ c, Dn 12 216 q) (lc : c.length = lot.length) (f : Nat → Option PL.D) (t : Tp) (rs : List (List Rat)) (hr : ∀ r ∈ rs, RowD lot r) (hl : rs.length ≤ 10) :
    ∃ (f' : Nat → Option PL.D) (rs' : List (List Rat)), (∀ r ∈ rs', RowD lot r) ∧ rs'.length ≤ 50 ∧ forr (callF fns (k+3)) (.name 9) lp_w_law_11 [] ((List.range lot.length).map fun (i : Nat) => D.int i) (EV n lot v c ins sc told (.ref 2) f) (tp t [.lst (rs.map rt)]) = .nx (EV n lot v c ins sc told (.ref 2) f') (tp t [.lst (rs'.map rt)]) := by
  have l10 := W.L.le
  obtain ⟨ρ', h', e, ⟨f', rs', rfl, rfl, h1, h2⟩⟩ := forr_all (cal := callF fns (k+3)) (tg := .name 9) (b := lp_w_law_11) [] (fun (i : Nat) => PL.D.int i) (List.range lot.length)
    (fun pre ρ h => ∃ f' rs', ρ = EV n lot v c ins sc told (.ref 2) f' ∧ h = tp t [.lst (rs'.map rt)] ∧ (∀ r ∈ rs', RowD lot r) ∧ rs'.length ≤ 10 + 3 * pre.length) (fun _ _ _ _ => rfl) ⟨f, rs, rfl, rfl, hr, by simpa using hl⟩ (by
      rintro pre j post ρ h e ⟨f1, rs1, rfl, rfl, h1, h2⟩
      have hj : j < lot.length := by
        have : j ∈ List.range lot.length := by rw [e]; simp
        exact List.mem_range.mp this
      have hpl : pre.length < 10 := by
        have h3 := congrArg List.length e
        simp at h3
        omega
      obtain ⟨r1, g1, e1⟩ := row_more (ins := ins) (sc := sc) (told := told) k W hc lc j hj (mkRat 1 4) ⟨by decide, 3, by decide +kernel, by decide⟩ (upd (upd f1 9 (some (.int j))) 13 (some (rv (mkRat 1 4)))) rfl rfl t rs1 h1 (by omega)
      obtain ⟨r2, g2, e2⟩ := row_more (ins := ins) (sc := sc) (told := told) k W hc lc j hj (mkRat (-1) 4) ⟨by decide, -3, by decide +kernel, by decide⟩ (upd (upd f1 9 (some (.int j))) 13 (some (rv (mkRat (-1) 4)))) rfl rfl t (rs1 ++ [r1]) (by simp; intro r hr; rcases hr with hr | rfl; exact h1 r hr; exact g1) (by simp; omega)
      obtain ⟨r3, g3, e3⟩ := row_more (ins := ins) (sc := sc) (told := told) k W hc lc j hj (mkRat (-9) 1) ⟨by decide, -108, by decide +kernel, by decide⟩ (upd (upd f1 9 (some (.int j))) 13 (some (rv (mkRat (-9) 1)))) rfl rfl t (rs1 ++ [r1] ++ [r2]) (by simp; intro r hr; rcases hr with hr | rfl | rfl; exact h1 r hr; exact g1; exact g2) (by simp; omega)
      have fo : forr (callF fns (k+3)) (.name 13) lp_w_law_12 [] [.tup [.int 1, .int 4], .tup [.int (-1), .int 4], .tup [.int (-9), .int 1]] (EV n lot v c ins sc told (.ref 2) (upd f1 9 (some (.int j)))) (tp t [.lst (rs1.map rt)]) = .nx (EV n lot v c ins sc told (.ref 2) (upd (upd f1 9 (some (.int j))) 13 (some (rv (mkRat (-9) 1))))) (tp t [.lst ((rs1 ++ [r1] ++ [r2] ++ [r3]).map rt)]) := by
        rw [← s_q1, ← s_q2, ← s_q3]
        rw [forr_cons (ρ1 := EV n lot v c ins sc told (.ref 2) (upd (upd f1 9 (some (.int j))) 13 (some (rv (mkRat 1 4))))) _ _ _ _ _ _ _ _ rfl rfl, e1, turn_nx]
        rw [forr_cons (ρ1 := EV n lot v c ins sc told (.ref 2) (upd (upd f1 9 (some (.int j))) 13 (some (rv (mkRat (-1) 4))))) _ _ _ _ _ _ _ _ rfl rfl, e2, turn_nx]
        rw [forr_cons (ρ1 := EV n lot v c ins sc told (.ref 2) (upd (upd f1 9 (some (.int j))) 13 (some (rv (mkRat (-9) 1))))) _ _ _ _ _ _ _ _ rfl rfl, e3, turn_nx]
        rw [forr_nil]; rfl
      refine ⟨EV n lot v c ins sc told (.ref 2) (upd f1 9 (some (.int j))), EV n lot v c ins sc told (.ref 2) (upd (upd f1 9 (some (.int j))) 13 (some (rv (mkRat (-9) 1)))), tp t [.lst ((rs1 ++ [r1] ++ [r2] ++ [r3]).map rt)], rfl, .inl ?_, _, _, rfl, rfl, ?_, ?_⟩
      · simp only [lp_w_law_11, exs_cons, exs_nil, ex_for, src_of, ev_lst, evs_cons, evs_nil, ev_tup, ev_cst, ev_neg, negR_int, R.bind_ok, new_f, srcOf_fl, thenS_ok, fo, O.seq_nx]
      · simp
        intro r hr
        rcases hr with hr | rfl | rfl | rfl
        · exact h1 r hr
        · exact g1
        · exact g2
        · exact g3
      · simp; omega)
  refine ⟨f', rs', h1, ?_, e⟩
  simp at h2
  omega
theorem okH_one (i : Nat) (c : Cell) (h : Hpp) (e : h[i]? = some c) : okH [(i, c)] h = true := by
  unfold okH
  simp only [List.all_cons, List.all_nil, Bool.and_true]
  exact decide_eq_true e
/-- what judge says of each row -/
theorem rows_check (k : Nat) (W : Drawn lot n v) (f : Nat → Option PL.D) (t : Tp) (rs : List (List Rat)) (hr : ∀ r ∈ rs, RowD lot r) :
    ∃ f', forr (callF fns (k+12)) (.name 10) lp_w_law_10 [(2, .lst (rs.map rt))] (rs.map rt) (EV n lot v c ins sc told (.ref 2) f) (tp t [.lst (rs.map rt)]) = .nx (EV n lot v c ins sc told (.ref 2) f') (tp t [.lst (rs.map rt)]) := by
  obtain ⟨ρ', h', e, ⟨rfl, f', rfl⟩⟩ := forr_all (cal := callF fns (k+12)) (tg := .name 10) (b := lp_w_law_10) [(2, .lst (rs.map rt))] rt rs
    (fun pre ρ h => h = tp t [.lst (rs.map rt)] ∧ ∃ f', ρ = EV n lot v c ins sc told (.ref 2) f') (ρ := EV n lot v c ins sc told (.ref 2) f) (h := tp t [.lst (rs.map rt)]) (fun _ _ _ ⟨e, _⟩ => by rw [e]; exact okH_one _ _ _ rfl) ⟨rfl, f, rfl⟩ (by
      rintro pre r post ρ h e ⟨rfl, f1, rfl⟩
      have R := hr r (by rw [e]; simp)
      have O := W.hull
      have j := fun h => c_judge_in (k+5) lot n v r h O R.l R.ok (R.oj W)
      have w := fun h => c_wjoined (k+9) lot n r (rt r) h W.L R.l (by simp) (zipR_src lot r) R.ok O.ol (R.oj W)
      have s := fun b h => c_same (k+1) (.bl b) h (by simp)
      refine ⟨EV n lot v c ins sc told (.ref 2) (upd f1 10 (some (rt r))), EV n lot v c ins sc told (.ref 2) (upd f1 10 (some (rt r))), _, rfl, .inl ?_, rfl, _, rfl⟩
      simp [lp_w_law_10, EV, upd, ev_varR, j, w, s])
  exact ⟨f', e⟩
end
end PL.G
end
section
set_option Elab.async false
set_option linter.all false
set_option maxRecDepth 100000
namespace PL.G
open PL
section
variable {n : Nat} {lot : List (List Rat)} {v c : List Rat} {ins : Bool} {sc told rows : D}
theorem rep_one (d : D) : ∀ m : Nat, (List.replicate m [d]).flatten = List.replicate m d
  | 0 => rfl
  | m + 1 => by rw [List.replicate_succ, List.flatten_cons, rep_one d m]; rfl
theorem mul_tup (th : Bool) (d : D) (m : Nat) (h : Hpp) (l : m ≤ 1000) : bop .mul th (.tup [d]) (.int m) h = .ok (.tup (List.replicate m d)) h := by
  show (if -1000 ≤ (m : Int) ∧ (m : Int) ≤ 1000 ∧ [d].length ≤ 1000 ∧ [d].isEmpty = false then R.ok (D.tup (List.replicate (m : Int).toNat [d]).flatten) h else .no) = _
  rw [if_pos ⟨by omega, by omega, by simp, rfl⟩, Int.toNat_natCast, rep_one]
theorem rep_it (m a : Nat) : (.tup (List.replicate m (.int a)) : D) = it (List.replicate m a) := by
  unfold it
  rw [List.map_replicate]
theorem cut_it (c : List Nat) (k : Nat) (h : Hpp) : slice false (it c) none (some (k : Int)) h = .ok (it (c.take k)) h := by
  rw [it, slice_tup, cut_map, cut_take]; rfl
theorem cut_it2 (c : List Nat) (k : Nat) (h : Hpp) : slice false (it c) (some ((k : Int) + 1)) none h = .ok (it (c.drop (k + 1))) h := by
  rw [it, slice_tup, show (k : Int) + 1 = ((k + 1 : Nat) : Int) by omega, cut_map, cut_drop]; rfl
theorem add_it (a b : List Nat) (h : Hpp) (l : a.length + b.length ≤ 1000) : bop .add false (it a) (it b) h = .ok (it (a ++ b)) h := by
  rw [it, it, bop_tup _ _ _ (by simp; unfold line; omega), ← List.map_append]; rfl
theorem it_one (x : Nat) : (.tup [.int x] : D) = it [x] := rfl
/-- an answer of places -/
def AnsD (lot : List (List Rat)) (n : Nat) (a : List Nat) : Prop := a.length = lot.length ∧ ∀ o ∈ a, o < n
theorem pick_nat (k : Nat) (xs : List Nat) (h0 : xs ≠ []) (h1 : xs.length ≤ 10000) (t : Tp) (r : Hpp) : ∃ x t', x ∈ xs ∧ callF fns (k+2) i_w_pick [.ref 1, .fl (xs.map fun (i : Nat) => D.int i)] (tp t r) = .ok (.int x) (tp t' r) := by
  obtain ⟨x, t', hx, e⟩ := c_pick k (xs.map fun (i : Nat) => D.int i) (by simpa using h0) (by simpa using h1) t r
  obtain ⟨a, ha, rfl⟩ := List.mem_map.mp hx
  exact ⟨a, t', ha, e⟩
/-- the answers asked about: what judge says is what the law sees -/
theorem ans_check (k : Nat) (W : Drawn lot n v) (p : Nat) (hp : p < n) (f : Nat → Option PL.D) (f11 : f 11 = some (.int p)) (f14 : f 14 = some (.fl (lot.map (rightD v n p)))) (i : Nat) (h0 : Hpp) (as : List (List Nat)) (hi : h0[i]? = some (.lst (as.map it))) (ha : ∀ a ∈ as, AnsD lot n a) :
    ∃ f' : Nat → Option PL.D, f' 14 = f 14 ∧ f' 11 = f 11 ∧ forr (callF fns (k+12)) (.name 17) lp_w_law_3 [(i, .lst (as.map it))] (as.map it) (EV n lot v c ins sc told rows f) h0 = .nx (EV n lot v c ins sc told rows f') h0 := by
  obtain ⟨ρ', h', e, ⟨rfl, f', rfl, g14, g11⟩⟩ := forr_all (cal := callF fns (k+12)) (tg := .name 17) (b := lp_w_law_3) [(i, .lst (as.map it))] it as
    (fun pre ρ h => h = h0 ∧ ∃ f' : Nat → Option PL.D, ρ = EV n lot v c ins sc told rows f' ∧ f' 14 = f 14 ∧ f' 11 = f 11) (ρ := EV n lot v c ins sc told rows f) (h := h0) (fun _ _ _ ⟨e, _⟩ => by rw [e]; exact okH_one _ _ _ hi) ⟨rfl, f, rfl, rfl, rfl⟩ (by
      rintro pre a post ρ h e ⟨rfl, f1, rfl, g14, g11⟩
      obtain ⟨a1, a2⟩ := ha a (by rw [e]; simp)
      have O := W.hull
      have d := W.dif
      have j := fun h => c_judge_out (k+5) lot n v p a h O hp a1 a2 d.a d.b
      have w := fun h => c_wout (k+9) lot n v p a (lotD lot) (it a) h (by simp) (by simp) (zip_src lot a) W.L.row O.ol W.hv O.ov hp a2 d
      have s := fun b h => c_same (k+1) (.bl b) h (by simp)
      rw [f11] at g11
      refine ⟨EV n lot v c ins sc told rows (upd f1 17 (some (it a))), EV n lot v c ins sc told rows (upd f1 17 (some (it a))), _, rfl, .inl ?_, rfl, _, rfl, g14, by rw [f11]; exact g11⟩
      simp [lp_w_law_3, EV, upd, ev_varR, g11, j, w, s])
  exact ⟨f', g14, g11, e⟩
/-- one answer with one place wrong, for each of the lot -/
theorem ans_more (k : Nat) (W : Drawn lot n v) (p : Nat) (g : List Nat) (hg : AnsD lot n g) (r : Hpp) (f : Nat → Option PL.D) (f14 : f 14 = some (.fl (lot.map (rightD v n p)))) (f15 : f 15 = some (.ref (r.length + 2))) (f16 : f 16 = some (it g)) (f11 : f 11 = some (.int p)) (t : Tp) (as : List (List Nat)) (ha : ∀ a ∈ as, AnsD lot n a) (hl : as.length ≤ 100) :
    ∃ (f' : Nat → Option PL.D) (t' : Tp) (as' : List (List Nat)), f' 14 = f 14 ∧ f' 15 = f 15 ∧ f' 11 = f 11 ∧ (∀ a ∈ as', AnsD lot n a) ∧ forr (callF fns (k+3)) (.name 9) lp_w_law_4 [] ((List.range lot.length).map fun (i : Nat) => D.int i) (EV n lot v c ins sc told rows f) (tp t (r ++ [.lst (as.map it)]))
      = .nx (EV n lot v c ins sc told rows f') (tp t' (r ++ [.lst (as'.map it)])) := by
  have l10 := W.L.le
  have n10 := W.L.n10
  obtain ⟨ρ', h', e, ⟨f', t', as', rfl, rfl, e1, e2, e3, e4, h1, h2⟩⟩ := forr_all (cal := callF fns (k+3)) (tg := .name 9) (b := lp_w_law_4) [] (fun (i : Nat) => PL.D.int i) (List.range lot.length)
    (fun pre ρ h => ∃ (f' : Nat → Option PL.D) (t' : Tp) (as' : List (List Nat)), ρ = EV n lot v c ins sc told rows f' ∧ h = tp t' (r ++ [.lst (as'.map it)]) ∧ f' 14 = f 14 ∧ f' 15 = f 15 ∧ f' 16 = f 16 ∧ f' 11 = f 11 ∧ (∀ a ∈ as', AnsD lot n a) ∧ as'.length ≤ 100 + pre.length)
    (fun _ _ _ _ => rfl) ⟨f, t, as, rfl, rfl, rfl, rfl, rfl, rfl, ha, by simpa using hl⟩ (by
      rintro pre j post ρ h e ⟨f1, t1, as1, rfl, rfl, e1, e2, e3, e4, h1, h2⟩
      have hj : j < lot.length := by
        have : j ∈ List.range lot.length := by rw [e]; simp
        exact List.mem_range.mp this
      have hpl : pre.length < 10 := by
        have h3 := congrArg List.length e
        simp at h3
        omega
      rw [f14] at e1
      rw [f15] at e2
      rw [f16] at e3
      have gj : lot[j]? = some lot[j] := List.getElem?_eq_getElem hj
      have ij := fun h => item_mapF (rightD v n p) lot j lot[j] h gj
      generalize lot[j] = row at ij gj
      -- the wrong places
      have m : ∀ (h : Hpp) (x18 : Option PL.D), cmp1 (callF fns (k+3)) el_w_law_5 (.name 20) cs_w_law_5 [] ((List.range n).map fun (i : Nat) => PL.D.int i) (EV n lot v c ins sc told rows (upd (upd f1 9 (some (.int j))) 20 none)) h = .ok (((List.range n).filter fun m => !decide (m ∈ rightAt v row n p)).map fun (i : Nat) => PL.D.int i) h := fun h _ => by
        refine cmp1_f _ _ _ rfl _ fun m hm => ⟨_, rfl, ?_, fun _ => by simp [el_w_law_5, EV, upd, ev_varR]⟩
        simp [cs_w_law_5, EV, upd, ev_varR, e1, ij, rightD]
      have m := fun h => m h none
      have sr := fun h => src_range0 n (by omega) h
      have ln : n ≤ line := by unfold line; omega
      generalize hw : ((List.range n).filter fun m => !decide (m ∈ rightAt v row n p)) = ws at m
      have wl : ws.length ≤ 10 := by
        rw [← hw]
        have := List.length_filter_le (fun m => !decide (m ∈ rightAt v row n p)) (List.range n)
        rw [List.length_range] at this
        omega
      have wn : ∀ x ∈ ws, x < n := fun x hx => by
        rw [← hw] at hx
        exact List.mem_range.mp (List.mem_filter.mp hx).1
      by_cases w0 : ws = []
      · subst w0
        refine ⟨EV n lot v c ins sc told rows (upd f1 9 (some (.int j))), EV n lot v c ins sc told rows (upd (upd f1 9 (some (.int j))) 18 (some (.fl []))), tp t1 (r ++ [.lst (as1.map it)]), rfl, .inl ?_, _, t1, as1, rfl, rfl, by rw [f14]; exact e1, by rw [f15]; exact e2, by rw [f16]; exact e3, e4, h1, by simp; omega⟩
        simp only [EV, upd] at m
        simp at m
        simp [lp_w_law_4, EV, upd, ev_varR, sr, m, ln]
      · obtain ⟨x, t2, hx, ep⟩ := pick_nat (k+1) ws w0 (by omega) t1 (r ++ [.lst (as1.map it)])
        have gl := hg.1
        have ba := fun h => add_it (g.take j) [x] h (by simp; omega)
        have bb := fun h => add_it (g.take j ++ [x]) (g.drop (j + 1)) h (by simp; omega)
        have he : (tp t2 (r ++ [.lst (as1.map it)]))[r.length + 2]? = some (.lst (as1.map it)) := by rw [tp_at]; simp
        have he1 : (tp t1 (r ++ [.lst (as1.map it)]))[r.length + 2]? = some (.lst (as1.map it)) := by rw [tp_at]; simp
        have ra := recv_app he1
        have ma := fun d => mt_app d he (by rw [List.length_map]; unfold line; omega)
        have st : ∀ q, (tp t2 (r ++ [.lst (as1.map it)])).set (r.length + 2) q = tp t2 (r ++ [q]) := fun q => by rw [tp_set]; simp
        refine ⟨EV n lot v c ins sc told rows (upd f1 9 (some (.int j))), EV n lot v c ins sc told rows (upd (upd f1 9 (some (.int j))) 18 (some (.fl (ws.map fun (i : Nat) => .int i)))), tp t2 (r ++ [.lst ((as1 ++ [g.take j ++ [x] ++ g.drop (j + 1)]).map it)]), rfl, .inl ?_, _, t2, _, rfl, rfl, by rw [f14]; exact e1, by rw [f15]; exact e2, by rw [f16]; exact e3, e4, ?_, by simp; omega⟩
        · simp only [EV, upd] at m
          simp [e2, e3] at m
          simp only [List.append_assoc] at bb
          simp [lp_w_law_4, EV, upd, ev_varR, sr, m, ln, w0, e2, ra, e3, cut_it, cut_it2, ep, it_one, ba, bb, ma, st]
        · intro a hm
          rcases List.mem_append.mp hm with hm | hm
          · exact h1 a hm
          · rw [List.mem_singleton] at hm
            subst hm
            refine ⟨by simp; omega, fun o ho => ?_⟩
            simp only [List.mem_append, List.mem_singleton] at ho
            rcases ho with (ho | rfl) | ho
            · exact hg.2 o (List.mem_of_mem_take ho)
            · exact wn _ hx
            · exact hg.2 o (List.mem_of_mem_drop ho))
  exact ⟨f', t', as', e1, e2, e4, h1, e⟩
end
end PL.G
end
section
set_option Elab.async false
set_option linter.all false
set_option maxRecDepth 100000
namespace PL.G
open PL
section
variable {n : Nat} {lot : List (List Rat)} {v c : List Rat} {ins : Bool} {sc told rows : D}
theorem bop_flT (xs ys : List D) (h : Hpp) (l : xs.length + ys.length ≤ line) : bop .add true (.fl xs) (.fl ys) h = .ok (.ref h.length) (h ++ [.lst (xs ++ ys)]) := by
  show (if xs.length + ys.length ≤ line then new true (xs ++ ys) h else .no) = _
  rw [if_pos l]; rfl
theorem srcOf_ref {h : Hpp} {i : Nat} {xs : List D} (e : h[i]? = some (.lst xs)) : srcOf (.ref i) h = .ok ⟨xs, [(i, .lst xs)]⟩ h := by
  simp only [srcOf, seqOf, heldOf, e]
/-- where all is tight, no place is a right one for all -/
theorem no_right (W : Drawn lot n v) (p : Nat) (hp : p < n) (e : joinedV lot (sharesV lot v) n = v) : (lot.all fun r => decide (rightAt v r n p ≠ [])) = false := by
  obtain ⟨r, hr, e2⟩ := tight_of W.L hp (by rw [e])
  rw [List.all_eq_false]
  refine ⟨r, hr, ?_⟩
  have : rightAt v r n p = [] := by
    unfold rightAt
    rw [List.filter_eq_nil_iff]
    intro m hm
    have le := share_le W.hv (W.L.row r hr) (List.mem_range.mp hm)
    simp only [decide_eq_true_eq]
    grind
  simp [this]
theorem place_body (k : Nat) (W : Drawn lot n v) (hin : ins = true → joinedV lot (sharesV lot v) n = v) (p : Nat) (hp : p < n) (f : Nat → Option PL.D) (f11 : f 11 = some (.int p)) (t : Tp) (r : Hpp) :
    ∃ (f' : Nat → Option PL.D) (t' : Tp) (r' : Hpp), exs (callF fns (k+12)) lp_w_law_1 (EV n lot v c ins sc told rows f) (tp t r) = .nx (EV n lot v c ins sc told rows f') (tp t' r') := by
  have l10 := W.L.le
  have n10 := W.L.n10
  have n1 := W.L.n1
  have O := W.hull
  have lp := W.L.pos
  have wr := fun h => c_wright (k+8) lot n v p h O hp W.dif
  -- all alike
  have m7 : ∀ h, cmp1 (callF fns (k+12)) el_w_law_7 (.name 20) .nil [] ((List.range n).map fun (i : Nat) => PL.D.int i) (EV n lot v c ins sc told rows (upd (upd f 14 (some (.fl (lot.map (rightD v n p))))) 20 none)) h = .ok ((List.range n).map fun a => it (List.replicate lot.length a)) h := fun h => by
    refine cmp1_m (β := Nat) _ _ rfl _ fun a ha => ⟨_, rfl, ?_⟩
    have mt := mul_tup false (.int a) lot.length h (by omega)
    rw [rep_it] at mt
    simp [el_w_law_7, EV, upd, ev_varR, mt]
  have sr := fun h => src_range0 n (by omega) h
  have sr4 : ∀ h, srcRange 0 4 h = .ok ⟨(List.range 4).map fun (i : Nat) => PL.D.int i, []⟩ h := fun h => src_range0 4 (by decide) h
  -- drawn
  obtain ⟨as8, t8, e8, l8, h8⟩ := cmp1_st (cal := callF fns (k+12)) (elt := el_w_law_8) (tg := .name 19) (ρ := EV n lot v c ins sc told rows (upd (upd f 14 (some (.fl (lot.map (rightD v n p))))) 19 none)) (fun (i : Nat) => PL.D.int i) it (fun t : Tp => tp t r) (AnsD lot n) (List.range 4) t (by
    intro i hi t
    obtain ⟨os, t', e, l, ho⟩ := cmp1_st (cal := callF fns (k+12)) (elt := el_w_law_9) (tg := .name 10) (ρ := EV n lot v c ins sc told rows (upd (upd (upd f 14 (some (.fl (lot.map (rightD v n p))))) 19 (some (.int i))) 10 none)) rt (fun (i : Nat) => PL.D.int i) (fun t : Tp => tp t r) (fun o => o < n) lot t (by
      intro x hx t
      obtain ⟨o, t', ho, e⟩ := c_drawN (k+11) n n1 (by omega) t r
      exact ⟨_, o, t', rfl, ho, by simp [el_w_law_9, EV, upd, ev_varR, e]⟩)
    refine ⟨_, os, t', rfl, ⟨l, ho⟩, ?_⟩
    simp only [EV, upd] at e
    simp at e
    have ll : lot.length ≤ line := by unfold line; omega
    simp [el_w_law_8, EV, upd, ev_varR, e, ll]
    rfl)
  have e7 : ((List.range n).map fun a => it (List.replicate lot.length a)) = ((List.range n).map fun a => List.replicate lot.length a).map it := by rw [List.map_map]; rfl
  -- good ones
  obtain ⟨gs, t6, e6, l6, h6⟩ := cmp1_st (cal := callF fns (k+12)) (elt := el_w_law_6) (tg := .name 21) (ρ := EV n lot v c ins sc told rows (upd (upd (upd f 14 (some (.fl (lot.map (rightD v n p))))) 15 (some (.ref (r.length + 2)))) 21 none)) (rightD v n p) (fun (i : Nat) => PL.D.int i) (fun t : Tp => tp t (r ++ [.lst (((List.range n).map fun a => List.replicate lot.length a).map it ++ as8.map it)])) (fun o => o < n) lot t8 (by
    intro x hx t
    by_cases z : rightAt v x n p = []
    · refine ⟨_, p, t, rfl, hp, ?_⟩
      simp [el_w_law_6, EV, upd, ev_varR, rightD, z, f11]
    · obtain ⟨o, t', ho, e⟩ := pick_nat (k+10) (rightAt v x n p) z (by
        have := List.length_filter_le (fun m => decide (at0 x p - at0 x m < at0 v p - at0 v m)) (List.range n)
        rw [List.length_range] at this
        unfold rightAt
        omega) t (r ++ [.lst (((List.range n).map fun a => List.replicate lot.length a).map it ++ as8.map it)])
      refine ⟨_, o, t', rfl, ?_, ?_⟩
      · exact List.mem_range.mp (List.mem_filter.mp ho).1
      · simp only [List.map_map] at e
        simp [el_w_law_6, EV, upd, ev_varR, rightD, z, e])
  rw [← List.map_append] at e6
  generalize ha0 : ((List.range n).map fun a => List.replicate lot.length a) ++ as8 = as0 at e6
  have g0 : ∀ a ∈ as0, AnsD lot n a := by
    rw [← ha0]
    intro a ha
    rcases List.mem_append.mp ha with ha | ha
    · obtain ⟨x, hx, rfl⟩ := List.mem_map.mp ha
      exact ⟨by simp, fun o ho => by rw [List.eq_of_mem_replicate ho]; exact List.mem_range.mp hx⟩
    · exact h8 a ha
  have l0 : as0.length ≤ 14 := by
    rw [← ha0]
    rw [List.length_range] at l8
    simp [l8]; omega
  have bT := fun h => bop_flT (((List.range n).map fun a => List.replicate lot.length a).map it) (as8.map it) h (by rw [List.length_range] at l8; simp [l8]; unfold line; omega)
  rw [← List.map_append, ha0] at bT
  rw [e7] at m7
  have hg : AnsD lot n gs := ⟨l6, h6⟩
  obtain ⟨f9, t9, as9, q14, q15, q11, h9, e9⟩ := ans_more (c := c) (ins := ins) (sc := sc) (told := told) (rows := rows) (k+9) W p gs hg r (upd (upd (upd f 14 (some (.fl (lot.map (rightD v n p))))) 15 (some (.ref (r.length + 2)))) 16 (some (it gs))) rfl rfl rfl f11 t6 (as0 ++ [gs]) (by
    intro a ha
    rcases List.mem_append.mp ha with ha | ha
    · exact g0 a ha
    · rw [List.mem_singleton] at ha; rw [ha]; exact hg) (by simp; omega)
  have q14' : f9 14 = some (.fl (lot.map (rightD v n p))) := q14
  have q11' : f9 11 = some (.int p) := by rw [q11]; exact f11
  have q15' : f9 15 = some (.ref (r.length + 2)) := q15
  have hi9 : (tp t9 (r ++ [.lst (as9.map it)]))[r.length + 2]? = some (.lst (as9.map it)) := by rw [tp_at]; simp
  obtain ⟨f10, z14, z11, e10⟩ := ans_check (c := c) (ins := ins) (sc := sc) (told := told) (rows := rows) k W p hp f9 q11' q14' (r.length + 2) (tp t9 (r ++ [.lst (as9.map it)])) as9 hi9 h9
  have z14' : f10 14 = some (.fl (lot.map (rightD v n p))) := by rw [z14]; exact q14'
  have m2 : ∀ h, cmp1 (callF fns (k+12)) el_w_law_2 (.name 21) .nil [] (lot.map (rightD v n p)) (EV n lot v c ins sc told rows (upd f10 21 none)) h = .ok (lot.map fun x => .bl (decide (rightAt v x n p ≠ []))) h := fun h => by
    refine cmp1_m (β := Nat) _ _ rfl _ fun x hx => ⟨_, rfl, ?_⟩
    simp [el_w_law_2, EV, upd, ev_varR, rightD]
  refine ⟨f10, t9, r ++ [.lst (as9.map it)], ?_⟩
  have ll : lot.length ≤ line := by unfold line; omega
  have ln : n ≤ line := by unfold line; omega
  have l4 : 4 ≤ line := by unfold line; omega
  have he6 : (tp t6 (r ++ [.lst (as0.map it)]))[r.length + 2]? = some (.lst (as0.map it)) := by rw [tp_at]; simp
  have ra := recv_app he6
  have ma := fun d => mt_app d he6 (by rw [List.length_map]; unfold line; omega)
  have st : ∀ q, (tp t6 (r ++ [.lst (as0.map it)])).set (r.length + 2) q = tp t6 (r ++ [q]) := fun q => by rw [tp_set]; simp
  have so : srcOf (.ref (r.length + 2)) (tp t9 (r ++ [.lst (as9.map it)])) = .ok ⟨as9.map it, [(r.length + 2, .lst (as9.map it))]⟩ (tp t9 (r ++ [.lst (as9.map it)])) := srcOf_ref hi9
  have lr : ∀ t, (tp t r).length = r.length + 2 := fun t => rfl
  have nr := fun i => no_right W p hp (hin i)
  have itg : D.tup (gs.map fun (i : Nat) => D.int i) = it gs := rfl
  have hmem : (as0 ++ [gs]).map it = as0.map it ++ [it gs] := by simp
  rw [hmem] at e9
  have sl : ∀ t, srcRange 0 (lot.length : Int) t = .ok ⟨(List.range lot.length).map fun (i : Nat) => PL.D.int i, []⟩ t := fun t => src_range0 lot.length (by omega) t
  generalize ((List.range n).map fun a => List.replicate lot.length a).map it = A7 at m7 bT
  simp only [EV, upd] at m7 e8 e6 e9 e10 m2
  simp [f11, q15', z14'] at m7 e8 e6 e9 e10 m2
  cases ins with
  | false =>
    simp [lp_w_law_1, EV, ev_varR, f11, wr, sr, ln, m7, sr4, e8, l4, bT, lr, ll, e6, itg, ra, ma, st, sl, e9, q15', so, e10, z14']
  | true =>
    have nr := nr rfl
    have na : ¬ ∀ x : List Rat, x ∈ lot → ¬ rightAt v x n p = [] := by
      intro z
      rw [List.all_eq_false] at nr
      obtain ⟨x, hx, e⟩ := nr
      exact e (by simpa using z x hx)
    simp [lp_w_law_1, EV, ev_varR, f11, wr, sr, ln, m7, sr4, e8, l4, bT, lr, ll, e6, itg, ra, ma, st, sl, e9, q15', so, e10, z14', m2]
    rw [if_neg na]
    simp
end
end PL.G
end
section
set_option Elab.async false
set_option linter.all false
set_option maxRecDepth 100000
namespace PL.G
open PL
section
variable {n : Nat} {lot : List (List Rat)} {v c : List Rat} {ins : Bool} {sc told rows : D}
theorem place_loop (k : Nat) (W : Drawn lot n v) (hin : ins = true → joinedV lot (sharesV lot v) n = v) (f : Nat → Option PL.D) (t : Tp) (r : Hpp) :
    ∃ (f' : Nat → Option PL.D) (t' : Tp) (r' : Hpp), forr (callF fns (k+12)) (.name 11) lp_w_law_1 [] ((List.range n).map fun (i : Nat) => PL.D.int i) (EV n lot v c ins sc told rows f) (tp t r) = .nx (EV n lot v c ins sc told rows f') (tp t' r') := by
  obtain ⟨ρ', h', e, ⟨f', t', r', rfl, rfl⟩⟩ := forr_all (cal := callF fns (k+12)) (tg := .name 11) (b := lp_w_law_1) [] (fun (i : Nat) => PL.D.int i) (List.range n)
    (fun pre ρ h => ∃ (f' : Nat → Option PL.D) (t' : Tp) (r' : Hpp), ρ = EV n lot v c ins sc told rows f' ∧ h = tp t' r') (fun _ _ _ _ => rfl) ⟨f, t, r, rfl, rfl⟩ (by
      rintro pre p post ρ h e ⟨f1, t1, r1, rfl, rfl⟩
      have hp : p < n := by
        have : p ∈ List.range n := by rw [e]; simp
        exact List.mem_range.mp this
      obtain ⟨f2, t2, r2, e2⟩ := place_body (c := c) (sc := sc) (told := told) (rows := rows) k W hin p hp (upd f1 11 (some (.int p))) rfl t1 r1
      exact ⟨_, _, _, rfl, .inl e2, f2, t2, r2, rfl, rfl⟩)
  exact ⟨f', t', r', e⟩
/-- no answer at all -/
def SP (m n : Nat) (c : List Rat) : List PL.D := [.non, .tup [], .str "in", .tup [.str "in"], .tup [.str "in", rt (c.drop 1)], .tup [.str "in", .fl (c.map rv)], .tup [.str "in", .tup (List.replicate m .non)], .tup [.str "out"], .tup [.str "out", .int 0],
  .tup [.str "out", .int n, it (List.replicate m 0)], .int 0, .tup [.str "out", .int (-1), it (List.replicate m 0)], .tup [.str "out", .int 0, it (List.replicate m n)], .tup [.str "out", .int 0, it (List.replicate (m + 1) 1)], .tup [.str "out", .int 0, .fl (List.replicate m (.int 1))], .tup [.str "both", rt c], .bl true]
theorem none_map (k : Nat) (ρ : Env) (hi : 3 < ρ.length) (m : Nat) (h : Hpp) :
    cmp1 (callF fns (k+2)) el_hulls_judge_0 (.name 3) .nil [] (List.replicate m .non) ρ h = .ok (List.replicate m (.bl false)) h := by
  have e1 : List.replicate m PL.D.non = (List.range m).map fun _ => PL.D.non := by simp [List.map_const']
  have e2 : List.replicate m (PL.D.bl false) = (List.range m).map fun _ => PL.D.bl false := by simp [List.map_const']
  rw [e1, e2]
  refine cmp1_m (β := Nat) _ _ rfl _ fun q _ => ⟨_, rfl, ?_⟩
  have c : callF fns (k+2) i_ratios_is_ratio [.non] h = .ok (.bl false) h := by
    rw [call0 (fn := f_ratios_is_ratio) (k+1) _ h rfl rfl rfl rfl]
    simp [f_ratios_is_ratio, b_ratios_is_ratio, env0]
  simp [el_hulls_judge_0, ev_varR, hi, c]
theorem c_wall_bad (k : Nat) (W : Drawn lot n v) (h : Hpp) : ∀ d ∈ [PL.D.tup [.int n, it (List.replicate lot.length 0)], .tup [.int (-1), it (List.replicate lot.length 0)], .tup [.int 0, it (List.replicate lot.length n)], .tup [.int 0, it (List.replicate (lot.length + 1) 1)], .tup [.int 0, .fl (List.replicate lot.length (.int 1))]],
    callF fns (k+6) i_hulls_judge_wall [lotD lot, rt v, d] h = .ok (.bl false) h := by
  have cc := c_checkvector k lot n v [] W.L W.hv
  have hv := W.hv
  have n1 := W.L.n1
  have n1' : ¬ n = 0 := by omega
  intro d hd
  simp only [List.mem_cons, List.not_mem_nil, or_false] at hd
  rcases hd with rfl | rfl | rfl | rfl | rfl
  · rw [call0 (fn := f_hulls_judge_wall) (k+5) _ h rfl rfl rfl (by simp)]
    have n2 : ¬ (n : Int) < 0 := by omega
    simp [f_hulls_judge_wall, b_hulls_judge_wall, env0, cc, c_isint, hv, ev_varR, n2]
  · rw [call0 (fn := f_hulls_judge_wall) (k+5) _ h rfl rfl rfl (by simp)]
    simp [f_hulls_judge_wall, b_hulls_judge_wall, env0, cc, c_isint, hv, ev_varR]
  · have z := zip_src lot (List.replicate lot.length n) []
    obtain ⟨r0, l1, el⟩ : ∃ r0 l1, lot = r0 :: l1 := by
      cases lot with
      | nil => exact absurd rfl W.L.ne
      | cons r l => exact ⟨r, l, rfl⟩
    have zl : lot.zip (List.replicate lot.length n) = (r0, n) :: l1.zip (List.replicate l1.length n) := by
      rw [el, List.length_cons, List.replicate_succ, List.zip_cons_cons]
    rw [zl, List.map_cons] at z
    have n2 : ¬ (n : Int) < 0 := by omega
    have e := forr_cons (callF fns (k+5)) (.tup (.cons (.name 5) (.cons (.name 6) .nil))) lp_hulls_judge_wall_0 [] (D.tup [rt r0, .int n]) ((l1.zip (List.replicate l1.length n)).map fun q => D.tup [rt q.1, .int q.2]) [some (lotD lot), some (rt v), some (.tup [.int 0, it (List.replicate lot.length n)]), some (.int 0), some (it (List.replicate lot.length n)), none, none] [some (lotD lot), some (rt v), some (.tup [.int 0, it (List.replicate lot.length n)]), some (.int 0), some (it (List.replicate lot.length n)), some (rt r0), some (.int n)] [] rfl (by simp [sto, stos])
    have b : exs (callF fns (k+5)) lp_hulls_judge_wall_0 [some (lotD lot), some (rt v), some (.tup [.int 0, it (List.replicate lot.length n)]), some (.int 0), some (it (List.replicate lot.length n)), some (rt r0), some (.int n)] [] = .rt (.bl false) [] := by
      simp [lp_hulls_judge_wall_0, ev_varR, c_isint, n2, hv]
    rw [b, turn_rt] at e
    rw [call0 (fn := f_hulls_judge_wall) (k+5) _ h rfl rfl rfl (by simp)]
    simp [f_hulls_judge_wall, b_hulls_judge_wall, env0, cc, c_isint, hv, ev_varR, n1', z, e]
  · rw [call0 (fn := f_hulls_judge_wall) (k+5) _ h rfl rfl rfl (by simp)]
    have ne : ¬ (lot.length : Int) + 1 = lot.length := by omega
    simp [f_hulls_judge_wall, b_hulls_judge_wall, env0, cc, c_isint, hv, ev_varR, n1', ne]
  · rw [call0 (fn := f_hulls_judge_wall) (k+5) _ h rfl rfl rfl (by simp)]
    simp [f_hulls_judge_wall, b_hulls_judge_wall, env0, cc, ev_varR]
theorem strOk_in : PySem.PyData.strOk ("in" : Str) = true := by decide +kernel
theorem strOk_out : PySem.PyData.strOk ("out" : Str) = true := by decide +kernel
theorem strOk_both : PySem.PyData.strOk ("both" : Str) = true := by decide +kernel
theorem c_judge_bad (k : Nat) (W : Drawn lot n v) (hc : c.length = lot.length) (h : Hpp) : ∀ d ∈ SP lot.length n c, callF fns (k+7) i_hulls_judge [lotD lot, rt v, d] h = .ok (.bl false) h := by
  have cc := c_checkvector (k+1) lot n v [] W.L W.hv
  have wb := c_wall_bad k W []
  have lp := W.L.pos
  have t := fun s ys f hs => t_str_ne s [] ys f hs
  have s1 : ∀ a b, slice false (.tup [.str "out", a, b]) (some 1) none [] = .ok (.tup [a, b]) [] := fun _ _ => rfl
  have dl : ¬ ((c.drop 1).length : Int) = (lot.length : Int) := by rw [List.length_drop]; omega
  intro d hd
  simp only [SP, List.mem_cons, List.not_mem_nil, or_false] at hd
  rcases hd with rfl | rfl | rfl | rfl | rfl | rfl | rfl | rfl | rfl | rfl | rfl | rfl | rfl | rfl | rfl | rfl | rfl <;> rw [call0 (fn := f_hulls_judge) (k+6) _ h rfl rfl rfl (by simp)]
  · simp [f_hulls_judge, b_hulls_judge, env0, cc, ev_varR]
  · simp [f_hulls_judge, b_hulls_judge, env0, cc, ev_varR]
  · simp [f_hulls_judge, b_hulls_judge, env0, cc, ev_varR]
  · simp [f_hulls_judge, b_hulls_judge, env0, cc, ev_varR, t "in" [] (by simp) strOk_in, s_in_out, s_in_in]
  · generalize c.drop 1 = c1 at dl ⊢
    simp [f_hulls_judge, b_hulls_judge, env0, cc, ev_varR, t "in" [rt c1] (by simp) strOk_in, s_in_out, s_in_in, dl]
  · simp [f_hulls_judge, b_hulls_judge, env0, cc, ev_varR, t "in" [.fl (c.map rv)] (by simp) strOk_in, s_in_out, s_in_in]
  · have m := none_map (k+4) [some (lotD lot), some (rt v), some (.tup [.str "in", .tup (List.replicate lot.length .non)]), none] (by simp) lot.length []
    have fr : fitL 59 (List.replicate lot.length PL.D.non) = true := by
      have : List.replicate lot.length PL.D.non = lot.map fun _ => PL.D.non := by simp [List.map_const']
      rw [this]; simp
    have fr8 : fitL 58 (List.replicate lot.length PL.D.non) = true := by
      have : List.replicate lot.length PL.D.non = lot.map fun _ => PL.D.non := by simp [List.map_const']
      rw [this]; simp
    have al : doBi .all false [.fl (List.replicate lot.length (.bl false))] [] = .ok (.bl false) [] := by
      have : List.replicate lot.length (PL.D.bl false) = lot.map fun _ => PL.D.bl false := by simp [List.map_const']
      rw [this, bi_all_map]
      cases lot with
      | nil => simp at lp
      | cons x l => simp
    have ll : lot.length ≤ line := by have := W.L.le; unfold line; omega
    simp [f_hulls_judge, b_hulls_judge, env0, cc, ev_varR, t "in" [.tup (List.replicate lot.length .non)] (by simp [fr8]) strOk_in, s_in_out, s_in_in, m, ll, al]
  · simp [f_hulls_judge, b_hulls_judge, env0, cc, ev_varR, t "out" [] (by simp) strOk_out, s_out_out, s_out_in]
  · simp [f_hulls_judge, b_hulls_judge, env0, cc, ev_varR, t "out" [.int 0] (by simp) strOk_out, s_out_out, s_out_in]
  · simp [f_hulls_judge, b_hulls_judge, env0, cc, ev_varR, t "out" [.int n, it (List.replicate lot.length 0)] (by simp) strOk_out, s_out_out, s1, wb]
  · simp [f_hulls_judge, b_hulls_judge, env0, cc, ev_varR]
  · simp [f_hulls_judge, b_hulls_judge, env0, cc, ev_varR, t "out" [.int (-1), it (List.replicate lot.length 0)] (by simp) strOk_out, s_out_out, s1, wb]
  · simp [f_hulls_judge, b_hulls_judge, env0, cc, ev_varR, t "out" [.int 0, it (List.replicate lot.length n)] (by simp) strOk_out, s_out_out, s1, wb]
  · simp [f_hulls_judge, b_hulls_judge, env0, cc, ev_varR, t "out" [.int 0, it (List.replicate (lot.length + 1) 1)] (by simp) strOk_out, s_out_out, s1, wb]
  · have fr8 : fitL 58 (List.replicate lot.length (PL.D.int 1)) = true := by
      have : List.replicate lot.length (PL.D.int 1) = lot.map fun _ => PL.D.int 1 := by simp [List.map_const']
      rw [this]; simp
    simp [f_hulls_judge, b_hulls_judge, env0, cc, ev_varR, t "out" [.int 0, .fl (List.replicate lot.length (.int 1))] (by simp [fr8]) strOk_out, s_out_out, s1, wb]
  · simp [f_hulls_judge, b_hulls_judge, env0, cc, ev_varR, t "both" [rt c] (by simp) strOk_both, s_both_out, s_both_in]
  · simp [f_hulls_judge, b_hulls_judge, env0, cc, ev_varR]
end
end PL.G
end
section
set_option Elab.async false
set_option linter.all false
set_option maxRecDepth 100000
namespace PL.G
open PL
theorem mul_fl (d : D) (m : Nat) (h : Hpp) (l : m ≤ 1000) : bop .mul false (.fl [d]) (.int m) h = .ok (.fl (List.replicate m d)) h := by
  have e : bop .mul false (.fl [d]) (.int m) h = bopL .mul false (.fl [d]) (.int m) h := rfl
  rw [e]
  unfold bopL
  simp only [lstOf]
  rw [if_pos ⟨by omega, by omega, by simp; unfold line; omega⟩, Int.toNat_natCast, rep_one, new_f]
theorem list_rt (c : List Rat) (h : Hpp) : doBi .list false [rt c] h = .ok (.fl (c.map rv)) h := rfl
theorem cut_rt1 (c : List Rat) (h : Hpp) : slice false (rt c) (some 1) none h = .ok (rt (c.drop 1)) h := cut_rt2 c 0 h
theorem num_list (k : Nat) {α : Type} (en : α → D) (elt : E) (i j : Nat) (ρ : Env) (he : elt = .call i_w_number (.cons (.var 1) .nil)) (hj : j ≠ 1) (h1 : ρ[1]? = some (some (.ref 1))) (xs : List α) (t : Tp) (r : Hpp) :
    ∃ (ys : List Rat) (t' : Tp), cmp1 (callF fns (k+3)) elt (.name j) .nil [] (xs.map en) ρ (tp t r) = .ok (ys.map rv) (tp t' r) ∧ ys.length = xs.length ∧ ∀ y ∈ ys, Dn 6 36 y := by
  refine cmp1_st en rv (fun t : Tp => tp t r) (Dn 6 36) xs t fun x hx t => ?_
  obtain ⟨q, t', dq, e⟩ := c_number k t r
  refine ⟨_, q, t', rfl, dq, ?_⟩
  subst he
  have h1' : (ρ.set j (some (en x)))[1]? = some (some (.ref 1)) := by
    rw [List.getElem?_set_ne hj]; exact h1
  simp [ev_varR, h1', e]
/-- the draws -/
theorem draw_lot (k : Nat) (n : Nat) (n1 : 1 ≤ n) (n10 : n ≤ 10) (m : Nat) (ρ : Env) (h1 : ρ[1]? = some (some (.ref 1))) (h2 : ρ[2]? = some (some (.int n))) (h9 : ρ[9]? = some none) (t : Tp) :
    ∃ (ys : List (List Rat)) (t' : Tp), cmp1 (callF fns (k+3)) el_w_law_18 (.name 19) .nil [] ((List.range m).map fun (i : Nat) => D.int i) ρ (tp t []) = .ok (ys.map rt) (tp t' []) ∧ ys.length = m ∧ ∀ y ∈ ys, y.length = n ∧ ∀ q ∈ y, Dn 6 36 q := by
  obtain ⟨ys, t', e, l, h⟩ := cmp1_st (cal := callF fns (k+3)) (elt := el_w_law_18) (tg := .name 19) (ρ := ρ) (fun (i : Nat) => D.int i) rt (fun t : Tp => tp t []) (fun y : List Rat => y.length = n ∧ ∀ q ∈ y, Dn 6 36 q) (List.range m) t (by
    intro i hi t
    have g1 : ((ρ.set 19 (some (D.int i))).set 9 none)[1]? = some (some (.ref 1)) := by
      rw [List.getElem?_set_ne (by decide), List.getElem?_set_ne (by decide)]; exact h1
    have g2 : (ρ.set 19 (some (D.int i)))[2]? = some (some (.int n)) := by
      rw [List.getElem?_set_ne (by decide)]; exact h2
    obtain ⟨ys, t', e, l, h⟩ := num_list k (fun (i : Nat) => D.int i) el_w_law_19 0 9 _ rfl (by decide) g1 (List.range n) t []
    have sr := src_range0 n (by omega) (tp t [])
    have ln : n ≤ line := by unfold line; omega
    refine ⟨_, ys, t', rfl, ⟨by rw [l, List.length_range], h⟩, ?_⟩
    simp only [el_w_law_18, ev_bi, evs_cons, evs_nil, ev_comp, src_range1, ev_varR, g2, varR_some, R.bind_ok, rng1_int, sr, List.length_map, List.length_range, if_pos ln, wipe_cons, wipe_nil, e, noEr_ok, new_f, bi_tuple_fl]
    rfl)
  exact ⟨ys, t', e, by rw [l, List.length_range], h⟩
theorem shares_list (k : Nat) {n : Nat} {lot : List (List Rat)} {v : List Rat} (W : Drawn lot n v) (ρ : Env) (h4 : ρ[4]? = some (some (rt v))) (hl : ρ.length = 24) (h : Hpp) :
    cmp1 (callF fns (k+3)) el_w_law_14 (.name 10) .nil [] (lot.map rt) ρ h = .ok ((sharesV lot v).map rv) h := by
  have O := W.hull
  have e : (sharesV lot v).map rv = lot.map fun r => rv (rls (gapsV v r)) := by unfold sharesV; rw [List.map_map]; rfl
  rw [e]
  refine cmp1_m (β := Rat) _ _ rfl _ fun r hr => ⟨_, rfl, ?_⟩
  have rl := W.L.row r hr
  have m : ∀ ρ' : Env, ρ'.length = 24 → cmp1 (callF fns (k+3)) el_w_law_15 (.tup (.cons (.name 23) (.cons (.name 20) .nil))) .nil [] ((v.zip r).map fun p => D.tup [rv p.1, rv p.2]) ρ' h = .ok ((v.zip r).map fun p => rv (p.1 - p.2)) h := fun ρ' hρ => by
    refine cmp1_m (β := Rat) _ _ rfl _ fun p hp => ⟨(ρ'.set 23 (some (rv p.1))).set 20 (some (rv p.2)), by simp [sto, stos], ?_⟩
    have o1 := O.ov _ (List.of_mem_zip hp).1
    have o2 := O.ol r hr _ (List.of_mem_zip hp).2
    have b := c_wminus (k+2) p.2 h
    have a := c_wplus (k+1) p.1 (-p.2) h o1 ⟨by simpa using o2.1.neg, by simpa using o2.2⟩
    rw [← Rat.sub_eq_add_neg] at a
    generalize p.1 - p.2 = z at a ⊢
    generalize -p.2 = w at a b
    have v1 : ((ρ'.set 23 (some (rv p.1))).set 20 (some (rv p.2)))[23]? = some (some (rv p.1)) := by
      rw [List.getElem?_set_ne (by decide), List.getElem?_set_self (by omega)]
    have v2 : ((ρ'.set 23 (some (rv p.1))).set 20 (some (rv p.2)))[20]? = some (some (rv p.2)) := by
      rw [List.getElem?_set_self (by simp; omega)]
    simp [el_w_law_15, ev_varR, v1, v2, b, a]
  have z : srcZ (rt v) (rt r) h = .ok ⟨(v.zip r).map fun p => D.tup [rv p.1, rv p.2], []⟩ h := by
    show R.ok (Src.mk (zipL (v.map rv) (r.map rv)) []) h = _
    rw [zipL_map]
  have g : ((v.zip r).map fun p => rv (p.1 - p.2)) = (gapsV v r).map rv := by unfold gapsV; rw [List.map_map]; rfl
  rw [g] at m
  have wl := c_wlesser (k+1) (gapsV v r) h (gapsV_ne W.hv rl W.L.n1) (O.og r hr)
  have l1 : (v.zip r).length ≤ line := by rw [List.length_zip]; have := W.L.n10; have := W.hv; unfold line; omega
  have g4 : (ρ.set 10 (some (rt r)))[4]? = some (some (rt v)) := by rw [List.getElem?_set_ne (by decide)]; exact h4
  have g10 : (ρ.set 10 (some (rt r)))[10]? = some (some (rt r)) := by rw [List.getElem?_set_self (by omega)]
  simp only [el_w_law_14, ev_call, evs_cons, evs_nil, ev_comp, src_zip, ev_varR, g4, g10, varR_some, R.bind_ok, z, List.length_map, if_pos l1, wipe_cons, wipe_nil, m _ (show (((ρ.set 10 (some (rt r))).set 20 none).set 23 none).length = 24 by simp [hl]), noEr_ok, new_f, wl]
theorem spoilt_list (k : Nat) {n : Nat} {lot : List (List Rat)} {v c : List Rat} (W : Drawn lot n v) (hc : c.length = lot.length) (ρ : Env) (h3 : ρ[3]? = some (some (lotD lot))) (h4 : ρ[4]? = some (some (rt v))) (hl : ρ.length = 24) (h : Hpp) :
    cmp1 (callF fns (k+7)) el_w_law_0 (.name 22) .nil [] (SP lot.length n c) ρ h = .ok ((SP lot.length n c).map fun _ => .bl false) h := by
  have b := c_judge_bad k (n := n) W hc h
  have e : SP lot.length n c = (SP lot.length n c).map id := by simp
  rw [show cmp1 (callF fns (k+7)) el_w_law_0 (.name 22) .nil [] (SP lot.length n c) ρ h = cmp1 (callF fns (k+7)) el_w_law_0 (.name 22) .nil [] ((SP lot.length n c).map id) ρ h by rw [← e]]
  refine cmp1_m (β := Nat) _ _ rfl _ fun d hd => ⟨_, rfl, ?_⟩
  have g3 : (ρ.set 22 (some d))[3]? = some (some (lotD lot)) := by rw [List.getElem?_set_ne (by decide)]; exact h3
  have g4 : (ρ.set 22 (some d))[4]? = some (some (rt v)) := by rw [List.getElem?_set_ne (by decide)]; exact h4
  have g22 : (ρ.set 22 (some d))[22]? = some (some d) := by rw [List.getElem?_set_self (by omega)]
  have bd := b d hd
  simp [el_w_law_0, ev_varR, g3, g4, g22, bd]
/-- what is told of what is in, and of what is out -/
theorem told_ok (k : Nat) {n : Nat} {lot : List (List Rat)} {v : List Rat} (W : Drawn lot n v) : ∃ told, (∀ h, callF fns (k+12) i_hulls_paper [lotD lot, rt v] h = .ok told h) ∧ (∀ h, callF fns (k+12) i_hulls_judge [lotD lot, rt v, told] h = .ok (.bl true) h) ∧ pureD told = true ∧
    (∀ h, ∃ s, item told (.int 0) h = some (.str s) ∧ pyEq (.str s) (.str "in") h = some (decide (joinedV lot (sharesV lot v) n = v)) ∧ pyEq (.str s) (.str "out") h = some (!decide (joinedV lot (sharesV lot v) n = v))) ∧
    (¬ joinedV lot (sharesV lot v) n = v → ∃ p P, (∀ h, item told (.int 1) h = some (.int p)) ∧ (∀ h, item told (.int 2) h = some P) ∧ ∀ h, callF fns (k+12) i_w_out [lotD lot, rt v, .int p, P] h = .ok (.bl true) h) := by
  have O := W.hull
  have pe : ∀ (a b : Str) (h : Hpp), pyEq (.str a) (.str b) h = pyEq (.str a) (.str b) [] := fun _ _ _ => rfl
  by_cases e : joinedV lot (sharesV lot v) n = v
  · refine ⟨.tup [.str "in", rt (sharesV lot v)], fun h => c_paper_in (k+3) lot n v h O e, fun h => ?_, by simp, fun h => ⟨"in", rfl, ?_, ?_⟩, fun z => absurd e z⟩
    · have := c_judge_in (k+5) lot n v (sharesV lot v) h O (shares_len lot v) O.os O.oj
      rw [this]; simp [e]
    · rw [pe, s_in_in]; simp [e]
    · rw [pe, s_in_out]; simp [e]
  · obtain ⟨p, ps, ef, hp, hlt⟩ := free_of W.L W.hv e
    have fl := firsts_lt W.L W.hv
    have fln : (firstsV lot v).length = lot.length := by simp [firstsV]
    have ot := out_true W.L W.hv hlt
    refine ⟨.tup [.str "out", .int p, it (firstsV lot v)], fun h => c_paper_out (k+3) lot n v h O e p ps ef, fun h => ?_, by simp, fun h => ⟨"out", rfl, ?_, ?_⟩, fun _ => ⟨p, it (firstsV lot v), fun h => rfl, fun h => rfl, fun h => ?_⟩⟩
    · have := c_judge_out (k+5) lot n v p (firstsV lot v) h O hp fln fl W.dif.a W.dif.b
      rw [this, ot]
    · rw [pe, s_out_in]; simp [e]
    · rw [pe, s_out_out]; simp [e]
    · have := c_wout (k+9) lot n v p (firstsV lot v) (lotD lot) (it (firstsV lot v)) h (by simp) (by simp) (zip_src lot _) W.L.row O.ol W.hv O.ov hp fl W.dif
      rw [this, ot]
/-- the rest of the law, once all is drawn -/
theorem rest_ok (k : Nat) {n : Nat} {lot : List (List Rat)} {v : List Rat} (W : Drawn lot n v) (sc x9 x10 x19 : Option D) (t : Tp) : True := trivial
end PL.G
end
section
set_option Elab.async false
set_option linter.all false
set_option maxRecDepth 100000
namespace PL.G
open PL
def takeS : Nat → Ss → Ss
  | 0, _ => .nil
  | _, .nil => .nil
  | _, .unk => .unk
  | k + 1, .cons s r => .cons s (takeS k r)
def dropS : Nat → Ss → Ss
  | 0, b => b
  | _, .nil => .nil
  | _, .unk => .nil
  | k + 1, .cons _ r => dropS k r
theorem exs_split (cal : Cal) : ∀ (k : Nat) (b : Ss) (ρ : Env) (h : Hpp), exs cal b ρ h = (exs cal (takeS k b) ρ h).seq fun ρ h => exs cal (dropS k b) ρ h
  | 0, b, ρ, h => by simp [takeS, dropS]
  | k + 1, .nil, ρ, h => by simp [takeS, dropS]
  | k + 1, .unk, ρ, h => by simp only [takeS, exs]; rfl
  | k + 1, .cons s r, ρ, h => by
    rw [takeS, dropS, exs_cons, exs_cons]
    cases ex cal s ρ h with
    | nx ρ' h' => simp only [O.seq_nx]; exact exs_split cal k r ρ' h'
    | _ => rfl
def E5 (sc : D) (n : Nat) (lot : List (List Rat)) (v : List Rat) : Env := [some sc, some (.ref 1), some (.int n), some (lotD lot), some (rt v), none, none, none, none, none, none, none, none, none, none, none, none, none, none, none, none, none, none, none]
theorem partA (is : List Int) (hl : is.length ≤ 63) : ∃ (n : Nat) (lot : List (List Rat)) (v : List Rat) (t : Tp), Drawn lot n v ∧
    exs (callF fns 39) (takeS 5 b_w_law) (env0 f_w_law [.sc is]) [] = .nx (E5 (.sc is) n lot v) (tp t []) := by
  obtain ⟨t0, et⟩ := c_tape 38 is hl
  obtain ⟨v1, t1, h1, e1⟩ := c_drawN 38 4 (by decide) (by decide) t0 []
  obtain ⟨n, hn⟩ : ∃ n : Nat, (n : Int) = 2 + v1 := ⟨2 + v1, by omega⟩
  have n1 : 1 ≤ n := by omega
  have n10 : n ≤ 10 := by omega
  obtain ⟨v2, t2, h2, e2⟩ := c_drawN 38 4 (by decide) (by decide) t1 []
  obtain ⟨m, hm⟩ : ∃ m : Nat, (m : Int) = 1 + v2 := ⟨1 + v2, by omega⟩
  obtain ⟨lot, t3, e3, l3, h3⟩ := draw_lot 36 n n1 n10 m [some (.sc is), some (.ref 1), some (.int n), none, none, none, none, none, none, none, none, none, none, none, none, none, none, none, none, none, none, none, none, none] rfl rfl rfl t2
  have L : LotOk lot n := ⟨fun z => by rw [z] at l3; simp at l3; omega, by omega, n1, n10, fun r hr => (h3 r hr).1⟩
  have dl : ∀ r ∈ lot, ∀ q ∈ r, Dn 6 36 q := fun r hr => (h3 r hr).2
  obtain ⟨v, t4, e4, l4, h4⟩ := num_list 36 (fun (i : Nat) => D.int i) el_w_law_17 0 9 [some (.sc is), some (.ref 1), some (.int n), some (lotD lot), none, none, none, none, none, none, none, none, none, none, none, none, none, none, none, none, none, none, none, none] rfl (by decide) rfl (List.range n) t3 []
  rw [List.length_range] at l4
  obtain ⟨v5, t5, h5, e5⟩ := c_drawN 38 2 (by decide) (by decide) t4 []
  have sm := fun h => src_range0 m (by omega) h
  have sn := fun h => src_range0 n (by omega) h
  have lm : m ≤ line := by unfold line; omega
  have ln : n ≤ line := by unfold line; omega
  have t4' : D.tup (v.map rv) = rt v := rfl
  have t3' : D.tup (lot.map rt) = lotD lot := rfl
  have e1 : callF fns 39 i_w_draw [.ref 1, .int 4] (tp t0 []) = .ok (.int v1) (tp t1 []) := e1
  have e2 : callF fns 39 i_w_draw [.ref 1, .int 4] (tp t1 []) = .ok (.int v2) (tp t2 []) := e2
  have e5 : callF fns 39 i_w_draw [.ref 1, .int 2] (tp t4 []) = .ok (.int v5) (tp t5 []) := e5
  simp only [Nat.reduceAdd] at et e3 e4
  by_cases z : v5 = 0
  · obtain ⟨c, t6, e6, l6, h6⟩ := num_list 36 rt el_w_law_16 0 10 [some (.sc is), some (.ref 1), some (.int n), some (lotD lot), some (rt v), none, none, none, none, none, none, none, none, none, none, none, none, none, none, none, none, none, none, none] rfl (by decide) rfl lot t5 []
    have oj : ∀ p ∈ lot.zip c, ∀ q ∈ p.1, Dn 6 72 (p.2 + q) := fun p hp q hq => (h6 p.2 (List.of_mem_zip hp).2).add (dl p.1 (List.of_mem_zip hp).1 q hq)
    have j := fun h => c_wjoined 36 lot n c (.fl (c.map rv)) h L l6 (by simp) (zipF_src lot c) (fun q hq => (h6 q hq).ok big6 (big400 (by decide))) (fun r hr q hq => (dl r hr q hq).ok big6 (big400 (by decide))) (fun p hp q hq => (oj p hp q hq).ok big6 (big400 (by decide)))
    have ll : lot.length ≤ line := by unfold line; omega
    simp only [Nat.reduceAdd] at e6 j
    refine ⟨n, lot, joinedV lot c n, t6, ⟨L, joined_len _ _ _, dl, fun q hq => ?_⟩, ?_⟩
    · obtain ⟨i, hi, rfl⟩ := List.mem_map.mp hq
      have ne : ((lot.zip c).map fun p => at0 p.1 i + p.2) ≠ [] := by
        intro z
        have l := congrArg List.length z
        rw [List.length_map, List.length_zip, l6, Nat.min_self] at l
        exact absurd l (by simp; exact L.ne)
      obtain ⟨p, hp, e⟩ := List.mem_map.mp (rgr_mem ne)
      rw [← e, Rat.add_comm]
      have pl := L.row p.1 (List.of_mem_zip hp).1
      exact oj p hp _ (at0_mem (by have := List.mem_range.mp hi; omega))
    · subst z
      simp [takeS, b_w_law, f_w_law, env0, E5, et, e1, ← hn, e2, ← hm, sm, lm, e3, t3', sn, ln, e4, t4', e5, ev_varR, e6, ll, j]
  · refine ⟨n, lot, v, t5, ⟨L, l4, dl, fun q hq => (h4 q hq).mono (by decide)⟩, ?_⟩
    simp [takeS, b_w_law, f_w_law, env0, E5, et, e1, ← hn, e2, ← hm, sm, lm, e3, t3', sn, ln, e4, t4', e5, ev_varR, z]
def E8 (sc : D) (n : Nat) (lot : List (List Rat)) (v c : List Rat) (ins : Bool) (told : D) : Env := [some sc, some (.ref 1), some (.int n), some (lotD lot), some (rt v), some (rt c), some (.bl ins), some told, none, none, none, none, none, none, none, none, none, none, none, none, none, none, none, none]
theorem partB (sc : D) {n : Nat} {lot : List (List Rat)} {v : List Rat} (W : Drawn lot n v) (t : Tp) : ∃ told, exs (callF fns 39) (takeS 5 (dropS 5 b_w_law)) (E5 sc n lot v) (tp t []) = .nx (E8 sc n lot v (sharesV lot v) (decide (joinedV lot (sharesV lot v) n = v)) told) (tp t []) := by
  have O := W.hull
  obtain ⟨told, p1, p2, p3, p4, p5⟩ := told_ok 27 W
  refine ⟨told, ?_⟩
  have sl := fun h => shares_list 36 W (E5 sc n lot v) rfl rfl h
  have j := fun h => c_wjoined 36 lot n (sharesV lot v) (rt (sharesV lot v)) h W.L (shares_len lot v) (by simp) (zipR_src lot _) O.os O.ol O.oj
  have ii := fun h => c_isin 31 lot n v h O
  have ll : lot.length ≤ line := by have := W.L.le; unfold line; omega
  have tt : D.tup ((sharesV lot v).map rv) = rt (sharesV lot v) := rfl
  have s := fun b h => c_same 28 (.bl b) h (by simp)
  obtain ⟨st, i0, q1, q2⟩ := p4 (tp t [])
  simp only [E5] at sl
  simp only [Nat.reduceAdd] at p1 p2 sl j ii s p5
  by_cases e : joinedV lot (sharesV lot v) n = v
  · simp [takeS, dropS, b_w_law, E5, E8, ev_varR, sl, ll, tt, j, e, p1, p2, i0, q1, q2, ii, s]
  · obtain ⟨p, P, i1, i2, w⟩ := p5 e
    simp [takeS, dropS, b_w_law, E5, E8, ev_varR, sl, ll, tt, j, e, p1, p2, i0, q1, q2, ii, s, i1, i2, w]
theorem partC (sc told : D) {n : Nat} {lot : List (List Rat)} {v : List Rat} (W : Drawn lot n v) (t : Tp) : ∃ (f : Nat → Option D) (t' : Tp) (r' : Hpp), exs (callF fns 39) (takeS 4 (dropS 10 b_w_law)) (E8 sc n lot v (sharesV lot v) (decide (joinedV lot (sharesV lot v) n = v)) told) (tp t []) = .nx (EV n lot v (sharesV lot v) (decide (joinedV lot (sharesV lot v) n = v)) sc told (.ref 2) f) (tp t' r') := by
  have l10 := W.L.le
  have hc : ∀ q ∈ sharesV lot v, Dn 12 216 q := fun q hq => (W.share q hq).scale 2 (by decide)
  obtain ⟨d, t1, e1, l1, h1⟩ := num_list 36 rt el_w_law_13 0 10 (E8 sc n lot v (sharesV lot v) (decide (joinedV lot (sharesV lot v) n = v)) told) rfl (by decide) rfl lot t []
  obtain ⟨f2, rs, g2, l2, e2⟩ := rows_loop (ins := decide (joinedV lot (sharesV lot v) n = v)) (sc := sc) (told := told) 36 W hc (shares_len lot v) (fun _ => none) t1 [sharesV lot v, d] (by
    intro r hr
    simp only [List.mem_cons, List.not_mem_nil, or_false] at hr
    rcases hr with rfl | rfl
    · exact ⟨shares_len lot v, fun q hq => (hc q hq).mono (by decide)⟩
    · exact ⟨l1, fun q hq => ((h1 q hq).scale 2 (by decide)).mono (by decide)⟩) (by simp)
  obtain ⟨f3, e3⟩ := rows_check (c := sharesV lot v) (ins := decide (joinedV lot (sharesV lot v) n = v)) (sc := sc) (told := told) 27 W f2 t1 rs g2
  obtain ⟨f4, t4, r4, e4⟩ := place_loop (c := sharesV lot v) (ins := decide (joinedV lot (sharesV lot v) n = v)) (sc := sc) (told := told) (rows := .ref 2) 27 W (fun z => by simpa using z) f3 t1 [.lst (rs.map rt)]
  refine ⟨f4, t4, r4, ?_⟩
  have ll : lot.length ≤ line := by unfold line; omega
  have sl := fun h => src_range0 lot.length (by omega) h
  have sn := fun h => src_range0 n (by have := W.L.n10; omega) h
  have td : D.tup (d.map rv) = rt d := rfl
  have so : srcOf (.ref 2) (tp t1 [.lst (rs.map rt)]) = .ok ⟨rs.map rt, [(2, .lst (rs.map rt))]⟩ (tp t1 [.lst (rs.map rt)]) := srcOf_ref rfl
  simp only [E8] at e1
  simp only [EV] at e2 e3 e4
  simp only [Nat.reduceAdd, List.map_cons, List.map_nil] at e1 e2 e3 e4
  simp [takeS, dropS, b_w_law, E8, EV, ev_varR, e1, ll, td, sl, e2, so, e3, sn, e4]
theorem partD (sc told : D) {n : Nat} {lot : List (List Rat)} {v c : List Rat} (ins : Bool) (W : Drawn lot n v) (hc : c.length = lot.length) (f : Nat → Option D) (t : Tp) (r : Hpp) : ∃ h', exs (callF fns 39) (dropS 14 b_w_law) (EV n lot v c ins sc told (.ref 2) f) (tp t r) = .rt (.bl true) h' := by
  have l10 := W.L.le
  have sp := fun x12 h => spoilt_list 32 W hc (EV n lot v c ins sc told (.ref 2) (upd (upd f 12 x12) 22 none)) rfl rfl rfl h
  refine ⟨tp t r, ?_⟩
  have m1 := fun (d : D) h => mul_tup false d lot.length h (by omega)
  have m2 : ∀ (d : D) h, bop .mul false (.tup [d]) (.int ((lot.length : Int) + 1)) h = .ok (.tup (List.replicate (lot.length + 1) d)) h := fun d h => mul_tup false d (lot.length + 1) h (by omega)
  have m3 := fun (d : D) h => mul_fl d lot.length h (by omega)
  have r0 : (.tup (List.replicate lot.length (.int 0)) : D) = it (List.replicate lot.length 0) := rep_it _ 0
  have rn : (.tup (List.replicate lot.length (.int n)) : D) = it (List.replicate lot.length n) := rep_it _ n
  have r1 : (.tup (List.replicate (lot.length + 1) (.int 1)) : D) = it (List.replicate (lot.length + 1) 1) := rep_it _ 1
  have an : doBi .any false [.fl ((SP lot.length n c).map fun _ => .bl false)] (tp t r) = .ok (.bl false) (tp t r) := by
    rw [bi_any_map]; simp
  have c1 := fun h => cut_rt1 c h
  simp only [SP] at sp an
  generalize c.drop 1 = cd at sp an c1
  have bf := fun (xs ys : List D) (h : Hpp) (l : xs.length + ys.length ≤ line) => bop_fl xs ys h l
  simp only [EV, upd] at sp
  simp only [SP, Nat.reduceAdd, List.map_cons, List.map_nil] at sp an
  simp at sp
  have e17 : 17 ≤ line := by unfold line; omega
  simp [dropS, b_w_law, EV, ev_varR, m1, m2, m3, r0, rn, r1, list_rt, c1, bf, e17, sp, an]
theorem hev : ∀ is : List Int, is.length ≤ 63 → ∃ h, callF fns 40 i_w_law [.sc is] [] = .ok (.bl true) h := by
  intro is hl
  obtain ⟨n, lot, v, t, W, eA⟩ := partA is hl
  obtain ⟨told, eB⟩ := partB (.sc is) W t
  obtain ⟨f, t2, r2, eC⟩ := partC (.sc is) told W t
  obtain ⟨h', eD⟩ := partD (.sc is) told (decide (joinedV lot (sharesV lot v) n = v)) W (shares_len lot v) f t2 r2
  refine ⟨[], ?_⟩
  rw [call0 (fn := f_w_law) 39 _ [] rfl rfl rfl rfl]
  have e : exs (callF fns 39) f_w_law.body (env0 f_w_law [.sc is]) [] = .rt (.bl true) h' := by
    show exs (callF fns 39) b_w_law _ _ = _
    rw [exs_split _ 5, eA, O.seq_nx, exs_split _ 5, eB, O.seq_nx, exs_split _ 4]
    have d1 : dropS 5 (dropS 5 b_w_law) = dropS 10 b_w_law := rfl
    have d2 : dropS 4 (dropS 10 b_w_law) = dropS 14 b_w_law := rfl
    rw [d1, eC, O.seq_nx, d2, eD]
  rw [e]
  simp
end PL.G
end
section
set_option Elab.async false
set_option linter.all false
set_option maxRecDepth 100000
set_option maxHeartbeats 0
namespace PL.G
open PL
def tab : Tab := ⟨("is_integer" :: "is_ratio" :: "divisor" :: "make" :: "add" :: "subtract" :: "less" :: "is_less" :: "greater" :: "lesser" :: "greatest" :: "is_lot" :: "check_lot" :: "check_vector" :: "gaps" :: "least" :: "shares" :: "joined" :: "nearest" :: "is_in" :: "types" :: "wall" :: "judge_wall" :: "paper" :: "judge" :: "_law_tape" :: "_law_draw" :: "_law_pick" :: "_law_same" :: "_law_make" :: "_law_plus" :: "_law_times" :: "_law_number" :: "_law_value" :: "_law_less" :: "_law_minus" :: "_law_both" :: "_law_most" :: "_law_lesser" :: "_law_joined" :: "_law_out" :: "_law_right_places" :: "law" :: []), ("BadNumber" :: "BadTable" :: []), (("MOST_VECTORS", (.int 10)) :: [])⟩
end PL.G
namespace PL.G
open PL PySem PySem.Spec PyProof.Rows L2
def topS (i : Nat) : Stmt := PySem.Challenge.pw_greatsums_k08_whole_papers_of_spans_judg.main.body.getD i (.Pass ⟨0, 0, 0, 0⟩)
def mkF (n : Str) (s : Stmt) (N : List Str) : FI := ⟨n, n, defArgs s, defBody s, defScope s, N⟩
def i__ratios_is_integer : FI := mkF "is_integer" (topS 5) n_ratios_is_integer
theorem bd_ratios_is_integer : i__ratios_is_integer.bd 1 := fun _ _ _ _ _ _ us hl => match us, hl with | [_], _ => rfl
def i__ratios_is_ratio : FI := mkF "is_ratio" (topS 6) n_ratios_is_ratio
theorem bd_ratios_is_ratio : i__ratios_is_ratio.bd 1 := fun _ _ _ _ _ _ us hl => match us, hl with | [_], _ => rfl
def i__ratios_divisor : FI := mkF "divisor" (topS 7) n_ratios_divisor
theorem bd_ratios_divisor : i__ratios_divisor.bd 2 := fun _ _ _ _ _ _ us hl => match us, hl with | [_, _], _ => rfl
def i__ratios_make : FI := mkF "make" (topS 8) n_ratios_make
theorem bd_ratios_make : i__ratios_make.bd 2 := fun _ _ _ _ _ _ us hl => match us, hl with | [_, _], _ => rfl
def i__ratios_add : FI := mkF "add" (topS 9) n_ratios_add
theorem bd_ratios_add : i__ratios_add.bd 2 := fun _ _ _ _ _ _ us hl => match us, hl with | [_, _], _ => rfl
def i__ratios_subtract : FI := mkF "subtract" (topS 10) n_ratios_subtract
theorem bd_ratios_subtract : i__ratios_subtract.bd 2 := fun _ _ _ _ _ _ us hl => match us, hl with | [_, _], _ => rfl
def i__ratios_less : FI := mkF "less" (topS 11) n_ratios_less
theorem bd_ratios_less : i__ratios_less.bd 2 := fun _ _ _ _ _ _ us hl => match us, hl with | [_, _], _ => rfl
def i__values_is_less : FI := mkF "is_less" (topS 13) n_values_is_less
theorem bd_values_is_less : i__values_is_less.bd 2 := fun _ _ _ _ _ _ us hl => match us, hl with | [_, _], _ => rfl
def i__values_greater : FI := mkF "greater" (topS 14) n_values_greater
theorem bd_values_greater : i__values_greater.bd 2 := fun _ _ _ _ _ _ us hl => match us, hl with | [_, _], _ => rfl
def i__values_lesser : FI := mkF "lesser" (topS 15) n_values_lesser
theorem bd_values_lesser : i__values_lesser.bd 2 := fun _ _ _ _ _ _ us hl => match us, hl with | [_, _], _ => rfl
def i__values_greatest : FI := mkF "greatest" (topS 16) n_values_greatest
theorem bd_values_greatest : i__values_greatest.bd 1 := fun _ _ _ _ _ _ us hl => match us, hl with | [_], _ => rfl
def i__hulls_is_lot : FI := mkF "is_lot" (topS 19) n_hulls_is_lot
theorem bd_hulls_is_lot : i__hulls_is_lot.bd 1 := fun _ _ _ _ _ _ us hl => match us, hl with | [_], _ => rfl
def i__hulls_check_lot : FI := mkF "check_lot" (topS 20) n_hulls_check_lot
theorem bd_hulls_check_lot : i__hulls_check_lot.bd 1 := fun _ _ _ _ _ _ us hl => match us, hl with | [_], _ => rfl
def i__hulls_check_vector : FI := mkF "check_vector" (topS 21) n_hulls_check_vector
theorem bd_hulls_check_vector : i__hulls_check_vector.bd 2 := fun _ _ _ _ _ _ us hl => match us, hl with | [_, _], _ => rfl
def i__hulls_gaps : FI := mkF "gaps" (topS 22) n_hulls_gaps
theorem bd_hulls_gaps : i__hulls_gaps.bd 2 := fun _ _ _ _ _ _ us hl => match us, hl with | [_, _], _ => rfl
def i__hulls_least : FI := mkF "least" (topS 23) n_hulls_least
theorem bd_hulls_least : i__hulls_least.bd 1 := fun _ _ _ _ _ _ us hl => match us, hl with | [_], _ => rfl
def i__hulls_shares : FI := mkF "shares" (topS 24) n_hulls_shares
theorem bd_hulls_shares : i__hulls_shares.bd 2 := fun _ _ _ _ _ _ us hl => match us, hl with | [_, _], _ => rfl
def i__hulls_joined : FI := mkF "joined" (topS 25) n_hulls_joined
theorem bd_hulls_joined : i__hulls_joined.bd 2 := fun _ _ _ _ _ _ us hl => match us, hl with | [_, _], _ => rfl
def i__hulls_nearest : FI := mkF "nearest" (topS 26) n_hulls_nearest
theorem bd_hulls_nearest : i__hulls_nearest.bd 2 := fun _ _ _ _ _ _ us hl => match us, hl with | [_, _], _ => rfl
def i__hulls_is_in : FI := mkF "is_in" (topS 27) n_hulls_is_in
theorem bd_hulls_is_in : i__hulls_is_in.bd 2 := fun _ _ _ _ _ _ us hl => match us, hl with | [_, _], _ => rfl
def i__hulls_types : FI := mkF "types" (topS 28) n_hulls_types
theorem bd_hulls_types : i__hulls_types.bd 2 := fun _ _ _ _ _ _ us hl => match us, hl with | [_, _], _ => rfl
def i__hulls_wall : FI := mkF "wall" (topS 29) n_hulls_wall
theorem bd_hulls_wall : i__hulls_wall.bd 2 := fun _ _ _ _ _ _ us hl => match us, hl with | [_, _], _ => rfl
def i__hulls_judge_wall : FI := mkF "judge_wall" (topS 30) n_hulls_judge_wall
theorem bd_hulls_judge_wall : i__hulls_judge_wall.bd 3 := fun _ _ _ _ _ _ us hl => match us, hl with | [_, _, _], _ => rfl
def i__hulls_paper : FI := mkF "paper" (topS 31) n_hulls_paper
theorem bd_hulls_paper : i__hulls_paper.bd 2 := fun _ _ _ _ _ _ us hl => match us, hl with | [_, _], _ => rfl
def i__hulls_judge : FI := mkF "judge" (topS 32) n_hulls_judge
theorem bd_hulls_judge : i__hulls_judge.bd 3 := fun _ _ _ _ _ _ us hl => match us, hl with | [_, _, _], _ => rfl
def i__w_tape : FI := mkF "_law_tape" (topS 34) n_w_tape
theorem bd_w_tape : i__w_tape.bd 1 := fun _ _ _ _ _ _ us hl => match us, hl with | [_], _ => rfl
def i__w_draw : FI := mkF "_law_draw" (topS 35) n_w_draw
theorem bd_w_draw : i__w_draw.bd 2 := fun _ _ _ _ _ _ us hl => match us, hl with | [_, _], _ => rfl
def i__w_pick : FI := mkF "_law_pick" (topS 36) n_w_pick
theorem bd_w_pick : i__w_pick.bd 2 := fun _ _ _ _ _ _ us hl => match us, hl with | [_, _], _ => rfl
def i__w_same : FI := mkF "_law_same" (topS 37) n_w_same
theorem bd_w_same : i__w_same.bd 2 := fun _ _ _ _ _ _ us hl => match us, hl with | [_, _], _ => rfl
def i__w_make : FI := mkF "_law_make" (topS 38) n_w_make
theorem bd_w_make : i__w_make.bd 2 := fun _ _ _ _ _ _ us hl => match us, hl with | [_, _], _ => rfl
def i__w_plus : FI := mkF "_law_plus" (topS 39) n_w_plus
theorem bd_w_plus : i__w_plus.bd 2 := fun _ _ _ _ _ _ us hl => match us, hl with | [_, _], _ => rfl
def i__w_times : FI := mkF "_law_times" (topS 40) n_w_times
theorem bd_w_times : i__w_times.bd 2 := fun _ _ _ _ _ _ us hl => match us, hl with | [_, _], _ => rfl
def i__w_number : FI := mkF "_law_number" (topS 41) n_w_number
theorem bd_w_number : i__w_number.bd 1 := fun _ _ _ _ _ _ us hl => match us, hl with | [_], _ => rfl
def i__w_value : FI := mkF "_law_value" (topS 42) n_w_value
theorem bd_w_value : i__w_value.bd 1 := fun _ _ _ _ _ _ us hl => match us, hl with | [_], _ => rfl
def i__w_less : FI := mkF "_law_less" (topS 43) n_w_less
theorem bd_w_less : i__w_less.bd 2 := fun _ _ _ _ _ _ us hl => match us, hl with | [_, _], _ => rfl
def i__w_minus : FI := mkF "_law_minus" (topS 44) n_w_minus
theorem bd_w_minus : i__w_minus.bd 1 := fun _ _ _ _ _ _ us hl => match us, hl with | [_], _ => rfl
def i__w_both : FI := mkF "_law_both" (topS 45) n_w_both
theorem bd_w_both : i__w_both.bd 2 := fun _ _ _ _ _ _ us hl => match us, hl with | [_, _], _ => rfl
def i__w_most : FI := mkF "_law_most" (topS 46) n_w_most
theorem bd_w_most : i__w_most.bd 1 := fun _ _ _ _ _ _ us hl => match us, hl with | [_], _ => rfl
def i__w_lesser : FI := mkF "_law_lesser" (topS 47) n_w_lesser
theorem bd_w_lesser : i__w_lesser.bd 1 := fun _ _ _ _ _ _ us hl => match us, hl with | [_], _ => rfl
def i__w_joined : FI := mkF "_law_joined" (topS 48) n_w_joined
theorem bd_w_joined : i__w_joined.bd 2 := fun _ _ _ _ _ _ us hl => match us, hl with | [_, _], _ => rfl
def i__w_out : FI := mkF "_law_out" (topS 49) n_w_out
theorem bd_w_out : i__w_out.bd 4 := fun _ _ _ _ _ _ us hl => match us, hl with | [_, _, _, _], _ => rfl
def i__w_right_places : FI := mkF "_law_right_places" (topS 50) n_w_right_places
theorem bd_w_right_places : i__w_right_places.bd 3 := fun _ _ _ _ _ _ us hl => match us, hl with | [_, _, _], _ => rfl
def i__w_law : FI := mkF "law" (topS 51) n_w_law
theorem bd_w_law : i__w_law.bd 1 := fun _ _ _ _ _ _ us hl => match us, hl with | [_], _ => rfl
def fis : List FI := (i__ratios_is_integer :: i__ratios_is_ratio :: i__ratios_divisor :: i__ratios_make :: i__ratios_add :: i__ratios_subtract :: i__ratios_less :: i__values_is_less :: i__values_greater :: i__values_lesser :: i__values_greatest :: i__hulls_is_lot :: i__hulls_check_lot :: i__hulls_check_vector :: i__hulls_gaps :: i__hulls_least :: i__hulls_shares :: i__hulls_joined :: i__hulls_nearest :: i__hulls_is_in :: i__hulls_types :: i__hulls_wall :: i__hulls_judge_wall :: i__hulls_paper :: i__hulls_judge :: i__w_tape :: i__w_draw :: i__w_pick :: i__w_same :: i__w_make :: i__w_plus :: i__w_times :: i__w_number :: i__w_value :: i__w_less :: i__w_minus :: i__w_both :: i__w_most :: i__w_lesser :: i__w_joined :: i__w_out :: i__w_right_places :: i__w_law :: [])
theorem bds : BdAll fns fis := ⟨bd_ratios_is_integer, bd_ratios_is_ratio, bd_ratios_divisor, bd_ratios_make, bd_ratios_add, bd_ratios_subtract, bd_ratios_less, bd_values_is_less, bd_values_greater, bd_values_lesser, bd_values_greatest, bd_hulls_is_lot, bd_hulls_check_lot, bd_hulls_check_vector, bd_hulls_gaps, bd_hulls_least, bd_hulls_shares, bd_hulls_joined, bd_hulls_nearest, bd_hulls_is_in, bd_hulls_types, bd_hulls_wall, bd_hulls_judge_wall, bd_hulls_paper, bd_hulls_judge, bd_w_tape, bd_w_draw, bd_w_pick, bd_w_same, bd_w_make, bd_w_plus, bd_w_times, bd_w_number, bd_w_value, bd_w_less, bd_w_minus, bd_w_both, bd_w_most, bd_w_lesser, bd_w_joined, bd_w_out, bd_w_right_places, bd_w_law, True.intro⟩
theorem ck_ratios_is_integer : fiC tab f_ratios_is_integer i__ratios_is_integer = true := by kernel_rfl
theorem ck_ratios_is_ratio : fiC tab f_ratios_is_ratio i__ratios_is_ratio = true := by kernel_rfl
theorem ck_ratios_divisor : fiC tab f_ratios_divisor i__ratios_divisor = true := by kernel_rfl
theorem ck_ratios_make : fiC tab f_ratios_make i__ratios_make = true := by kernel_rfl
theorem ck_ratios_add : fiC tab f_ratios_add i__ratios_add = true := by kernel_rfl
theorem ck_ratios_subtract : fiC tab f_ratios_subtract i__ratios_subtract = true := by kernel_rfl
theorem ck_ratios_less : fiC tab f_ratios_less i__ratios_less = true := by kernel_rfl
theorem ck_values_is_less : fiC tab f_values_is_less i__values_is_less = true := by kernel_rfl
theorem ck_values_greater : fiC tab f_values_greater i__values_greater = true := by kernel_rfl
theorem ck_values_lesser : fiC tab f_values_lesser i__values_lesser = true := by kernel_rfl
theorem ck_values_greatest : fiC tab f_values_greatest i__values_greatest = true := by kernel_rfl
theorem ck_hulls_is_lot : fiC tab f_hulls_is_lot i__hulls_is_lot = true := by kernel_rfl
theorem ck_hulls_check_lot : fiC tab f_hulls_check_lot i__hulls_check_lot = true := by kernel_rfl
theorem ck_hulls_check_vector : fiC tab f_hulls_check_vector i__hulls_check_vector = true := by kernel_rfl
theorem ck_hulls_gaps : fiC tab f_hulls_gaps i__hulls_gaps = true := by kernel_rfl
theorem ck_hulls_least : fiC tab f_hulls_least i__hulls_least = true := by kernel_rfl
theorem ck_hulls_shares : fiC tab f_hulls_shares i__hulls_shares = true := by kernel_rfl
theorem ck_hulls_joined : fiC tab f_hulls_joined i__hulls_joined = true := by kernel_rfl
theorem ck_hulls_nearest : fiC tab f_hulls_nearest i__hulls_nearest = true := by kernel_rfl
theorem ck_hulls_is_in : fiC tab f_hulls_is_in i__hulls_is_in = true := by kernel_rfl
theorem ck_hulls_types : fiC tab f_hulls_types i__hulls_types = true := by kernel_rfl
theorem ck_hulls_wall : fiC tab f_hulls_wall i__hulls_wall = true := by kernel_rfl
theorem ck_hulls_judge_wall : fiC tab f_hulls_judge_wall i__hulls_judge_wall = true := by kernel_rfl
theorem ck_hulls_paper : fiC tab f_hulls_paper i__hulls_paper = true := by kernel_rfl
theorem ck_hulls_judge : fiC tab f_hulls_judge i__hulls_judge = true := by kernel_rfl
theorem ck_w_tape : fiC tab f_w_tape i__w_tape = true := by kernel_rfl
theorem ck_w_draw : fiC tab f_w_draw i__w_draw = true := by kernel_rfl
theorem ck_w_pick : fiC tab f_w_pick i__w_pick = true := by kernel_rfl
theorem ck_w_same : fiC tab f_w_same i__w_same = true := by kernel_rfl
theorem ck_w_make : fiC tab f_w_make i__w_make = true := by kernel_rfl
theorem ck_w_plus : fiC tab f_w_plus i__w_plus = true := by kernel_rfl
theorem ck_w_times : fiC tab f_w_times i__w_times = true := by kernel_rfl
theorem ck_w_number : fiC tab f_w_number i__w_number = true := by kernel_rfl
theorem ck_w_value : fiC tab f_w_value i__w_value = true := by kernel_rfl
theorem ck_w_less : fiC tab f_w_less i__w_less = true := by kernel_rfl
theorem ck_w_minus : fiC tab f_w_minus i__w_minus = true := by kernel_rfl
theorem ck_w_both : fiC tab f_w_both i__w_both = true := by kernel_rfl
theorem ck_w_most : fiC tab f_w_most i__w_most = true := by kernel_rfl
theorem ck_w_lesser : fiC tab f_w_lesser i__w_lesser = true := by kernel_rfl
theorem ck_w_joined : fiC tab f_w_joined i__w_joined = true := by kernel_rfl
theorem ck_w_out : fiC tab f_w_out i__w_out = true := by kernel_rfl
theorem ck_w_right_places : fiC tab f_w_right_places i__w_right_places = true := by kernel_rfl
theorem ck_w_law : fiC tab f_w_law i__w_law = true := by kernel_rfl
theorem cks : chkAll tab fns fis = true := by
  simp only [fns, fis, chkAll, ck_ratios_is_integer, ck_ratios_is_ratio, ck_ratios_divisor, ck_ratios_make, ck_ratios_add, ck_ratios_subtract, ck_ratios_less, ck_values_is_less, ck_values_greater, ck_values_lesser, ck_values_greatest, ck_hulls_is_lot, ck_hulls_check_lot, ck_hulls_check_vector, ck_hulls_gaps, ck_hulls_least, ck_hulls_shares, ck_hulls_joined, ck_hulls_nearest, ck_hulls_is_in, ck_hulls_types, ck_hulls_wall, ck_hulls_judge_wall, ck_hulls_paper, ck_hulls_judge, ck_w_tape, ck_w_draw, ck_w_pick, ck_w_same, ck_w_make, ck_w_plus, ck_w_times, ck_w_number, ck_w_value, ck_w_less, ck_w_minus, ck_w_both, ck_w_most, ck_w_lesser, ck_w_joined, ck_w_out, ck_w_right_places, ck_w_law]; rfl
end PL.G
end
section
set_option Elab.async false
set_option linter.all false
set_option maxRecDepth 100000
set_option maxHeartbeats 0
namespace PL.G
open PL PySem PySem.Spec PyProof.Rows L2
abbrev R : PySem.W.OpenRow := PySem.W.OpenLaw.row PySem.Challenge.rw_greatsums_k08_whole_papers_of_spans_judg
abbrev fa0 : List He.Fa := faOf tab
abbrev fn0 : List He.DefD := PL.fnOf tab fis
abbrev hk : PySem.W.Hook := hookY 5 fa0 fn0 (exOf tab)
def ob (s : PySem.W.SharedT) : AlY := obsY 5 fa0 fn0 (exOf tab) (HandSHeadRun.getT s)
theorem ob_eq (s : PySem.W.SharedT) : ob s = hk.obs s.abs := obsY_eq (HandSHeadRun.getT_eq s)
def nm0 : List Str := ["GreatError", "BadNumber", "BadTable", "is_integer", "is_ratio", "divisor", "make", "add", "subtract", "less", "is_less", "greater", "lesser", "greatest", "MOST_VECTORS", "is_lot", "check_lot", "check_vector", "gaps", "least", "shares", "joined", "nearest", "is_in", "types", "wall", "judge_wall", "paper", "judge", "_law_tape"]
def nm1 : List Str := ["_law_draw", "_law_pick", "_law_same", "_law_make", "_law_plus", "_law_times", "_law_number", "_law_value", "_law_less", "_law_minus", "_law_both", "_law_most", "_law_lesser", "_law_joined", "_law_out", "_law_right_places"]
abbrev names : List Str := nm0 ++ nm1
theorem run (w : World) : HandSHeadRun.RunEq R (PySem.W.view R.prog [51]) hk ob 4000 names w := by
  intro os
  kernel_rfl
theorem facts (hev : ∀ is : List Int, is.length ≤ 63 → ∃ h, callF fns 40 i_w_law [.sc is] [] = .ok (.bl true) h) {P : Program} {w : World} {K : PySem.W.Frag} {h : Heap} {mg : Str → Option Value} {f : Addr} (X : K.In h) (G : h.Ns mainGlobals mg) (hfa : mg ("law" : Str) = some (.ref f)) (c : He.SaysD fa0 fn0 K) (ex : exOf tab K = true) :
    ∃ (fd : FuncData) (sp : Sp), (∀ (s : Shared) (v : Value), BindsTo s fd ⟨[v], []⟩ [("script", v)]) ∧ (∀ (H : Hp) (a : Addr) (ns : List Int), ns.length ≤ 63 → SqL K H a (ns.map V.int) → sp [.ref a] H (fun v _ => v = .bl true) fun _ _ _ => False) ∧
      ∀ base : Heap, K.In base → base.Ns mainGlobals mg → FnOk P w K mg base CXN 41 f fd ["script"] sp := by
  have pf : PF tab fns fis (geOf tab K) (xaOf tab K) mg := pf_of X G c ex rfl rfl (by decide +kernel) cks bds
  obtain ⟨fd, F⟩ := pf.fun_ i_w_law i__w_law rfl
  have e := hfa.symm.trans (pf.fnm i_w_law "law" rfl)
  cases e
  have b := FunD.bindsA (ps := ["script"]) F fun _ _ _ _ _ _ us hl => match us, hl with | [_], _ => rfl
  exact ⟨fd, (fun vs H Q _ => spF (geOf tab K) (xaOf tab K) (callF fns 40) i_w_law vs H Q fun _ _ _ => False), fun s v => b s [v] rfl, fun H a ns hl hS => law_sp hev hl hS, fun base _ _ => fn_close (prog_ok pf 40 i_w_law i__w_law f_w_law rfl rfl fd F).1⟩
end PL.G
end
section
set_option Elab.async false
set_option linter.all false
set_option maxRecDepth 100000
set_option maxHeartbeats 0
open PySem PySem.W PySem.Calls PyProof.Rows
theorem PySem.Challenge.cw_greatsums_k08_whole_papers_of_spans_judg_holds : PySem.Challenge.rw_greatsums_k08_whole_papers_of_spans_judg.Holds := by
  w_on; o_law
  refine HandSHeadRun.head_any (r := OpenLaw.row PySem.Challenge.rw_greatsums_k08_whole_papers_of_spans_judg) (q := view (OpenLaw.row PySem.Challenge.rw_greatsums_k08_whole_papers_of_spans_judg).prog [51]) (H := PL.G.hk) (ob := PL.G.ob) (M := 4000) (loose := PL.G.names) (d := HandSHeadRun.topDef (OpenLaw.row PySem.Challenge.rw_greatsums_k08_whole_papers_of_spans_judg).prog 51) (kwd := []) PL.G.ob_eq
    (by kernel_rfl) (fun s => by kernel_rfl) PL.G.run (by kernel_rfl) (by kernel_rfl) (by kernel_rfl) (by rfl) (by first | assumption | decide +kernel) (by decide +kernel) ⟨rfl, rfl, rfl, rfl, rfl, by decide +kernel⟩ ?hw ?hc
  case hw => w_witness2
  case hc =>
    refine L2.walk_ofE (l := PySem.Challenge.rw_greatsums_k08_whole_papers_of_spans_judg) (n := 63) (k := 41) (x := "script") (CX := PL.CXN) rfl (by decide) (by kernel_rfl) ⟨rfl, by decide, by decide⟩ ?F ?G
    case G => exact fun _ _ _ _ z => z
    case F =>
      intro w mg fa h Y G hmg0
      obtain ⟨K, KX, c, ex⟩ := Y
      have hmg : mg ("law" : PySem.Str) = some (.ref fa) := by
        have e : (HandSHeadRun.topDef (OpenLaw.row PySem.Challenge.rw_greatsums_k08_whole_papers_of_spans_judg).prog 51).name = ("law" : PySem.Str) := by kernel_rfl
        rw [← e]
        exact hmg0
      obtain ⟨fd, sp, hb, hsp, hF⟩ := PL.G.facts PL.G.hev (P := (PySem.Challenge.rw_greatsums_k08_whole_papers_of_spans_judg).prog) (w := w) KX G hmg c ex
      exact ⟨K, fd, sp, KX, hb, fun H a ns hl _ hS => hsp H a ns hl hS, hF⟩
end
