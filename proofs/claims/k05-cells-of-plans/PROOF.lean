import PyProof.Rows.All
import Wide.All
import OpenK.AllK
import Wide.FinOn
import PySem.Str
import HandS.ForMost
import HandS.Text
import HandS.TupAny
import HandS.IsInst
import HandS.Conv
import HandS.TupMul
import KE.SortData
import KE.DataCmp
import HandS.More
import HandS.Deep
import PyProof.MaxThree
import HandS.Zip
import HandS.Iter
import HandS.Rev
import HandS.SetFor
import HandS.TupSets
import PyProof.ListStr
import HandS.HeadHook3
import PySem.Challenge.RW_doubtborne_k05_cells_of_plans
set_option Elab.async false
set_option linter.all false
set_option autoImplicit false
set_option maxRecDepth 100000
set_option maxHeartbeats 4000000
/-! The value world: Python's data without addresses, a small store for what changes, a small program form, its run. -/
namespace PV
open PySem

inductive D where
  | non | bl (b : Bool) | int (i : Int) | str (s : Str) | tup (xs : List D) | fls (xs : List D) | ref (n : Nat) | ctu (xs : List D) | cdc (kvs : List (Str × Str))
  deriving Inhabited
inductive O where
  | lst (xs : List D) | dic (kvs : List (D × D))
abbrev Sto := List O

/-- what a run ends in -/
inductive R (α : Type) where
  | ok (a : α) (S : Sto)
  | exc (c : String) (xs : List D) (S : Sto)
  | bad
def R.bind {α β : Type} : R α → (α → Sto → R β) → R β
  | .ok a S, f => f a S
  | .exc c xs S, _ => .exc c xs S
  | .bad, _ => .bad
@[simp] theorem R.bind_ok {α β : Type} (a : α) (S : Sto) (f : α → Sto → R β) : (R.ok a S).bind f = f a S := rfl
@[simp] theorem R.bind_bad {α β : Type} (f : α → Sto → R β) : (R.bad : R α).bind f = .bad := rfl
@[simp] theorem R.bind_exc {α β : Type} (c : String) (xs : List D) (S : Sto) (f : α → Sto → R β) : (R.exc c xs S : R α).bind f = .exc c xs S := rfl
theorem R.bind_assoc {α β γ : Type} (r : R α) (f : α → Sto → R β) (g : β → Sto → R γ) : (r.bind f).bind g = r.bind fun a S => (f a S).bind g := by cases r <;> rfl

/-! ### pure data -/
mutual
def D.pur : D → Bool
  | .non => true | .bl _ => true | .int _ => true | .str _ => true
  | .tup xs => D.purs xs
  | .fls _ => false | .ref _ => false | .ctu _ => false | .cdc _ => false
def D.purs : List D → Bool
  | [] => true
  | x :: xs => x.pur && D.purs xs
end
mutual
def D.dep : D → Nat
  | .tup xs => D.deps xs + 1
  | _ => 0
def D.deps : List D → Nat
  | [] => 0
  | x :: xs => max x.dep (D.deps xs)
end
mutual
/-- == -/
def D.eqv : D → D → Bool
  | .non, .non => true
  | .bl a, .bl b => a == b
  | .bl a, .int j => (if a then 1 else 0) == j
  | .int i, .bl b => i == (if b then 1 else 0)
  | .int i, .int j => i == j
  | .str x, .str y => x == y
  | .tup xs, .tup ys => D.eqvs xs ys
  | _, _ => false
def D.eqvs : List D → List D → Bool
  | [], [] => true
  | x :: xs, y :: ys => x.eqv y && D.eqvs xs ys
  | _, _ => false
end
mutual
/-- the two can be put in order -/
def D.alk : D → D → Bool
  | .non, .non => true
  | .bl _, .bl _ => true
  | .int _, .int _ => true
  | .str _, .str _ => true
  | .tup xs, .tup ys => D.alks xs ys
  | _, _ => false
def D.alks : List D → List D → Bool
  | x :: xs, y :: ys => x.alk y && D.alks xs ys
  | _, _ => true
end
mutual
/-- < -/
def D.lt : D → D → Bool
  | .bl a, .bl b => !a && b
  | .int i, .int j => decide (i < j)
  | .str x, .str y => decide (x.cps.toList < y.cps.toList)
  | .tup xs, .tup ys => D.lts xs ys
  | _, _ => false
def D.lts : List D → List D → Bool
  | [], [] => false
  | [], _ :: _ => true
  | _ :: _, [] => false
  | x :: xs, y :: ys => if x.eqv y then D.lts xs ys else x.lt y
end
def D.le (a b : D) : Bool := !b.lt a
def maxDep : Nat := 40
/-- a list can be sorted -/
def D.isNon : D → Bool
  | .non => true
  | _ => false
def sortable (xs : List D) : Bool := D.purs xs && decide (D.deps xs ≤ maxDep) && (xs.all fun a => xs.all fun b => a.alk b) && xs.all fun a => !a.isNon
def sorted (xs : List D) : List D := xs.mergeSort D.le
/-- the first of equals -/
def dedup : List D → List D
  | [] => []
  | x :: xs => x :: (dedup xs).filter fun y => !x.eqv y

def b2i (b : Bool) : Int := if b then 1 else 0

/-! ### the program form -/
inductive Bop where
  | add | sub | mul | fdiv | mod | pow | shl | shr | band | bor
  deriving DecidableEq
inductive Cop where
  | eq | ne | lt | le | gt | ge | isin | notin
  deriving DecidableEq
inductive Ty where
  | int | bool | tuple | str | list
  deriving DecidableEq
/-- built-ins by name -/
inductive Bi where
  | len | int | abs | all | any | sum | min | max | ord | sorted | str | find | join
  deriving DecidableEq
inductive Mt where
  | append | pop | index | insert | extend | find | join | get | setdefault | split | isalnum | isdigit
  deriving DecidableEq

inductive E where
  | nil | cons (a b : E)
  | var (i : Nat) | num (i : Int) | cs (s : Str) | cb (b : Bool) | cn | glob (k : Nat)
  | tup (es : E) | lst (es : E) | dict | disp (kvs : List (Str × Str))
  | bin (op : Bop) (a b : E) | neg (a : E) | not (a : E)
  | cmp (op : Cop) (a b : E) | chain (o1 o2 : Cop) (a b c : E) | isN (a : E) | notN (a : E)
  | and (a b : E) | or (a b : E) | ite (c a b : E)
  | call (f : Nat) (es : E) | bi (f : Bi) (es : E) | isi (a : E) (t : Ty) | listOf (it : E) | tupOf (it : E) | sset (a : E) | revT (a : E)
  | ix (a b : E) | slice (a lo hi : E)
  | comp (t : List Nat) (it c e : E) | comp2 (t : List Nat) (it : E) (t2 : List Nat) (it2 c e : E)
  | meth (m : Mt) (o es : E)
  | range1 (a : E) | range2 (a b : E) | rangeDn (a b : E) | zip (a b : E)
  deriving Inhabited, DecidableEq
inductive T where
  | skip | seq (a b : T)
  | set (i : Nat) (e : E) | setT (is : List Nat) (e : E) | setIx (o i e : E)
  | aug (i : Nat) (op : Bop) (e : E) | augIx (o i : E) (op : Bop) (e : E)
  | ife (c : E) (a b : T) | for_ (t : List Nat) (it : E) (b : T) | while_ (c : E) (b : T)
  | ret (e : E) | expr (e : E) | brk | cont
  deriving Inhabited, DecidableEq
structure Fn where
  np : Nat
  ns : Nat
  body : T

abbrev Env := List (Option D)
inductive Fl where
  | nx (ρ : Env) | rt (v : D) | bk (ρ : Env) | ct (ρ : Env)

structure Ctx where
  call : Nat → List D → Sto → R D
  base : Nat
  glob : Nat → Option D

/-! ### operations -/
def sizeMax : Nat := 16777216
def small (i : Int) : Prop := i.natAbs < 2 ^ 64
instance (i : Int) : Decidable (small i) := by unfold small; infer_instance

def items (d : D) (S : Sto) : Option (List D) :=
  match d with
  | .tup xs => some xs
  | .fls xs => some xs
  | .ref a => match S[a]? with
    | some (.lst xs) => some xs
    | _ => none
  | _ => none
def alloc (o : O) (S : Sto) : R D := .ok (.ref S.length) (S ++ [o])

def catL (a b : Nat) (S : Sto) : R D :=
  match S[a]?, S[b]? with
  | some (.lst xs), some (.lst ys) => if xs.length + ys.length ≤ sizeMax then alloc (.lst (xs ++ ys)) S else .bad
  | _, _ => .bad
def repL (a : Nat) (k : Int) (S : Sto) : R D :=
  match S[a]? with
  | some (.lst xs) => if k.natAbs < 2 ^ 60 ∧ xs.length * k.toNat ≤ sizeMax then alloc (.lst (List.replicate k.toNat xs).flatten) S else .bad
  | _ => .bad
def binD (op : Bop) (x y : D) (S : Sto) : R D :=
  match x, y with
  | .int i, .int j => match op with
    | .add => .ok (.int (i + j)) S
    | .sub => .ok (.int (i - j)) S
    | .mul => if small i ∨ small j then .ok (.int (i * j)) S else .bad
    | .fdiv => if j ≠ 0 ∧ j.natAbs < 1073741824 then .ok (.int (i.fdiv j)) S else .bad
    | .mod => if j ≠ 0 then .ok (.int (i.fmod j)) S else .bad
    | .pow => if 0 ≤ j ∧ j ≤ 1000000 ∧ small i then .ok (.int (i ^ j.toNat)) S else .bad
    | .shl => if 0 ≤ j ∧ j ≤ 1000000 ∧ small i then .ok (.int (i * 2 ^ j.toNat)) S else .bad
    | .shr => if 0 ≤ j then .ok (.int (i / 2 ^ j.toNat)) S else .bad
    | .band => if 0 ≤ i ∧ 0 ≤ j then .ok (.int ((i.toNat &&& j.toNat : Nat) : Int)) S else .bad
    | .bor => if 0 ≤ i ∧ 0 ≤ j then .ok (.int ((i.toNat ||| j.toNat : Nat) : Int)) S else .bad
  | .int i, .bl k => match op with
    | .add => .ok (.int (i + b2i k)) S
    | .sub => .ok (.int (i - b2i k)) S
    | _ => .bad
  | .tup xs, .tup ys => match op with
    | .add => if xs.length + ys.length ≤ sizeMax then .ok (.tup (xs ++ ys)) S else .bad
    | _ => .bad
  | .tup xs, .int k => match op with
    | .mul => if 0 < xs.length ∧ xs.length ≤ 1000 ∧ 2 ≤ k ∧ k ≤ 1000 then .ok (.tup (List.replicate k.toNat xs).flatten) S else .bad
    | _ => .bad
  | .str s, .str t => match op with
    | .add => if s.length + t.length ≤ sizeMax then .ok (.str (s ++ t)) S else .bad
    | _ => .bad
  | .ref a, .ref b => match op with
    | .add => catL a b S
    | _ => .bad
  | .ref a, .int k => match op with
    | .mul => repL a k S
    | _ => .bad
  | _, _ => .bad

/-- what a value is as data: a list by its items -/
def plain (d : D) (S : Sto) : Option D :=
  match d with
  | .ref a => match S[a]? with
    | some (.lst xs) => if D.purs xs then some (.fls xs) else none
    | _ => none
  | .fls xs => if D.purs xs then some (.fls xs) else none
  | .ctu xs => if D.purs xs then some (.tup xs) else none
  | d => if d.pur then some d else none
def eqP : D → D → Bool
  | .fls xs, .fls ys => D.eqvs xs ys
  | .fls _, _ => false
  | _, .fls _ => false
  | x, y => x.eqv y
def depP : D → Nat
  | .fls xs => D.deps xs + 1
  | d => d.dep
def eqD (x y : D) (S : Sto) : Option Bool :=
  match plain x S, plain y S with
  | some a, some b => if depP a ≤ maxDep ∧ depP b ≤ maxDep then some (eqP a b) else none
  | _, _ => none
/-- keys of a dict: ints; tuples of ints -/
def D.isK : D → Bool
  | .int _ => true
  | _ => false
def D.isT : D → Bool
  | .tup xs => xs.all D.isK
  | _ => false
/-- keys of a dict: ints and texts -/
def D.isKey : D → Bool
  | .int _ => true
  | .str _ => true
  | _ => false
def dicOk (kvs : List (D × D)) (k : D) : Bool := (k.isKey && kvs.all fun p => p.1.isKey) || (k.isT && kvs.all fun p => p.1.isT)
def lookD : List (D × D) → D → Option D
  | [], _ => none
  | (k, v) :: r, x => if k.eqv x then some v else lookD r x
/-- in its place, or at the end -/
def putD (kvs : List (D × D)) (x v : D) : List (D × D) :=
  if (kvs.any fun p => p.1.eqv x) = true then kvs.map (fun p => if p.1.eqv x = true then (p.1, v) else p) else kvs ++ [(x, v)]
/-- the dict that a value is -/
def dicAt (y : D) (S : Sto) : Option (List (D × D)) :=
  match y with
  | .ref a => match S[a]? with
    | some (.dic kvs) => some kvs
    | _ => none
  | _ => none
/-- a text in a dict of the module, a sign in a text -/
def inS (x y : D) : Option (Option Bool) :=
  match x, y with
  | .str c, .cdc kvs => some (some (kvs.find? fun p => p.1 == c).isSome)
  | .str c, .str z => some (if c.length = 1 then some (decide (c.cps.getD 0 0 ∈ z.cps.toList)) else none)
  | _, _ => none
def inD (x y : D) (S : Sto) : Option Bool :=
  match inS x y with
  | some o => o
  | none => match dicAt y S with
  | some kvs => if dicOk kvs x = true then some (lookD kvs x).isSome else none
  | none => match items y S with
  | some ys => if x.pur && D.purs ys && decide (x.dep ≤ maxDep) && decide (D.deps ys ≤ maxDep) then some (ys.any fun z => z.eqv x) else none
  | none => none
def ordOk (x y : D) : Bool := x.pur && y.pur && x.alk y && decide (x.dep ≤ maxDep) && decide (y.dep ≤ maxDep) && !x.isNon
def cmpD (op : Cop) (x y : D) (S : Sto) : Option Bool :=
  match op with
  | .eq => eqD x y S
  | .ne => (eqD x y S).map (!·)
  | .isin => inD x y S
  | .notin => (inD x y S).map (!·)
  | .lt => if ordOk x y = true then some (x.lt y) else none
  | .gt => if ordOk x y = true then some (y.lt x) else none
  | .le => if ordOk x y = true then some (!y.lt x) else none
  | .ge => if ordOk x y = true then some (!x.lt y) else none
/-- Option into R -/
def lft {α : Type} (o : Option α) (S : Sto) : R α := match o with
  | some a => .ok a S
  | none => .bad
@[simp] theorem lft_some {α : Type} (a : α) (S : Sto) : lft (some a) S = .ok a S := rfl
@[simp] theorem lft_none {α : Type} (S : Sto) : lft (none : Option α) S = .bad := rfl

/-- op=, of ints -/
def augD (op : Bop) (x y : D) (S : Sto) : R D :=
  match x, y with
  | .int _, .int _ => (match op with
    | .add => binD .add x y S
    | .sub => binD .sub x y S
    | _ => .bad)
  | _, _ => .bad
/-- a place in a row -/
def ixN (n : Nat) (i : Int) : Option Nat := if 0 ≤ i then (if i < n then some i.toNat else none) else if -(n : Int) ≤ i then some (i + n).toNat else none
def atI {α : Type} (xs : List α) (i : Int) : Option α := (ixN xs.length i).bind fun j => xs[j]?
def dixD (kvs : List (D × D)) (y : D) : Option D := if dicOk kvs y = true then lookD kvs y else none
def ixD (x y : D) (S : Sto) : Option D :=
  match x, y with
  | .tup xs, .int i => atI xs i
  | .fls xs, .int i => atI xs i
  | .ctu xs, .int i => atI xs i
  | .str z, .int i => (atI z.cps.toList i).map fun c => .str ⟨#[c]⟩
  | .cdc kvs, .str z => (kvs.find? fun p => p.1 == z).map fun p => .str p.2
  | .ref a, .int i => match S[a]? with
    | some (.lst xs) => atI xs i
    | some (.dic kvs) => dixD kvs (.int i)
    | _ => none
  | .ref a, .tup ks => match S[a]? with
    | some (.dic kvs) => dixD kvs (.tup ks)
    | _ => none
  | .ref a, .str z => match S[a]? with
    | some (.dic kvs) => dixD kvs (.str z)
    | _ => none
  | _, _ => none
def lixD (x y : D) (S : Sto) : Option D :=
  match x, y with
  | .ref a, .int i => match S[a]? with
    | some (.lst xs) => atI xs i
    | _ => none
  | _, _ => none
def truthD (x : D) (S : Sto) : Option Bool :=
  match x with
  | .non => some false
  | .bl b => some b
  | .int i => some (i != 0)
  | .str y => some (y.length != 0)
  | .tup xs => some (!xs.isEmpty)
  | _ => none

def intsOf : List D → Option (List Int)
  | [] => some []
  | .int i :: r => (intsOf r).map (i :: ·)
  | _ :: _ => none
def bools : List D → Option (List Bool)
  | [] => some []
  | .bl i :: r => (bools r).map (i :: ·)
  | _ :: _ => none
/-- i, i - 1, .. above j -/
def rangeDn (i j : Int) : List D := (List.range (i - j).toNat).map fun (k : Nat) => .int (i + (k : Int) * -1)
def rangeL (i j : Int) : List D := (List.range (j - i).toNat).map fun (k : Nat) => .int (i + k)

/-- the items of a list alone -/
def lstItems (d : D) (S : Sto) : Option (List D) :=
  match d with
  | .fls xs => some xs
  | .ref a => match S[a]? with
    | some (.lst xs) => some xs
    | _ => none
  | _ => none
def lenD (x : D) (S : Sto) : Option Nat :=
  match x with
  | .str s => some s.length
  | x => match dicAt x S with
    | some kvs => if (kvs.all fun p => p.1.isK) = true then some kvs.length else none
    | none => (items x S).map List.length
def strsOf : List D → Option (List Str)
  | [] => some []
  | .str z :: r => (strsOf r).map (z :: ·)
  | _ :: _ => none
/-- where a sign stands first, or -1 -/
def findC (z : Str) (c : Nat) : Int := match z.cps.toList.findIdx? (fun d => d == c) with
  | some k => (k : Nat)
  | none => -1
def catS (ys : List Str) : Str := ⟨(ys.flatMap fun y => y.cps.toList).toArray⟩
/-- the least, the greatest of a row -/
def leastI : List Int → Option Int
  | [] => none
  | x :: r => some (r.foldl (fun a b => if b < a then b else a) x)
def mostI : List Int → Option Int
  | [] => none
  | x :: r => some (r.foldl (fun a b => if b > a then b else a) x)
def bi1 (f : Bi) (x : D) (S : Sto) : R D :=
  match f with
  | .min => lft ((lstItems x S).bind fun ys => (intsOf ys).bind fun bs => (leastI bs).map .int) S
  | .max => lft ((lstItems x S).bind fun ys => (intsOf ys).bind fun bs => (mostI bs).map .int) S
  | .len => lft ((lenD x S).map fun (n : Nat) => D.int n) S
  | .int => (match x with
    | .int i => .ok (.int i) S
    | .bl k => .ok (.int (b2i k)) S
    | .str z => if z.length = 1 ∧ 48 ≤ z.cps.getD 0 0 ∧ z.cps.getD 0 0 ≤ 57 then .ok (.int ((z.cps.getD 0 0 : Nat) - 48)) S else .bad
    | _ => .bad)
  | .ord => (match x with
    | .str z => if z.length = 1 then .ok (.int (z.cps.getD 0 0 : Nat)) S else .bad
    | _ => .bad)
  | .abs => (match x with
    | .int i => .ok (.int (if i < 0 then -i else i)) S
    | _ => .bad)
  | .all => lft ((lstItems x S).bind fun ys => (bools ys).map fun bs => .bl (bs.all id)) S
  | .any => lft ((lstItems x S).bind fun ys => (bools ys).map fun bs => .bl (bs.any id)) S
  | .sum => lft ((lstItems x S).bind fun ys => (intsOf ys).map fun bs => .int bs.sum) S
  | .sorted => match dicAt x S with
    | some kvs => if (kvs.all fun p => p.1.isK) = true ∧ kvs.length < 64 then alloc (.lst (sorted (kvs.map (·.1)))) S else .bad
    | none => (lft (items x S) S).bind fun ys S => if sortable ys = true then alloc (.lst (sorted ys)) S else .bad
  | _ => .bad
def bi2 (f : Bi) (x y : D) (S : Sto) : R D :=
  match x, y with
  | .int i, .int j => (match f with
    | .max => .ok (.int (if j > i then j else i)) S
    | .min => .ok (.int (if j < i then j else i)) S
    | _ => .bad)
  | .str a, y => (match f with
    | .find => (match y with
      | .str b => if b.length = 1 then .ok (.int (findC a (b.cps.getD 0 0))) S else .bad
      | _ => .bad)
    | .join => (lft ((lstItems y S).bind strsOf) S).bind fun zs S => if a.length = 0 ∧ (zs.map Str.length).sum ≤ sizeMax then .ok (.str (catS zs)) S else .bad
    | _ => .bad)
  | _, _ => .bad
def bi3 (f : Bi) (x y z : D) (S : Sto) : R D :=
  match f, x, y, z with
  | .max, .int a, .int b, .int c => .ok (.int (if b > a then (if c > b then c else b) else (if c > a then c else a))) S
  | _, _, _, _ => .bad
def biD (f : Bi) (xs : List D) (S : Sto) : R D :=
  match xs with
  | [x] => bi1 f x S
  | [x, y] => bi2 f x y S
  | [x, y, z] => bi3 f x y z S
  | _ => .bad
def isiD (x : D) (t : Ty) : Option Bool :=
  match x, t with
  | .non, _ => some false
  | .bl _, .int => some true
  | .bl _, .bool => some true
  | .bl _, _ => some false
  | .int _, .int => some true
  | .int _, _ => some false
  | .str _, .str => some true
  | .str _, _ => some false
  | .tup _, .tuple => some true
  | .tup _, _ => some false
  | .fls _, _ => none
  | .ref _, _ => none
  | .ctu _, _ => none
  | .cdc _, _ => none
/-- a change is of this frame's own, or puts in pure data -/
def okPut (base a : Nat) (v : D) : Bool := v.pur || decide (base ≤ a)
/-- what has a list's methods -/
def mtOk (x : D) (S : Sto) : Option Unit :=
  match x with
  | .ref a => match S[a]? with
    | some (.lst _) => some ()
    | _ => none
  | _ => none
def methD (base : Nat) (m : Mt) (o : D) (xs : List D) (S : Sto) : R D :=
  match m, o, xs with
  | .append, .ref a, [v] => (match S[a]? with
    | some (.lst ys) => if okPut base a v = true ∧ ys.length < sizeMax then .ok .non (S.set a (.lst (ys ++ [v]))) else .bad
    | _ => .bad)
  | .index, .ref a, [v] => (match S[a]? with
    | some (.lst ys) => if v.pur && D.purs ys && decide (v.dep ≤ maxDep) && decide (D.deps ys + 1 ≤ maxDep) then (match ys.findIdx? fun z => z.eqv v with
        | some j => .ok (.int (j : Nat)) S
        | none => .bad) else .bad
    | _ => .bad)
  | .pop, .ref a, [.int i] => (match S[a]? with
    | some (.lst ys) => (match ixN ys.length i with
      | some j => (match ys[j]? with
        | some v => .ok v (S.set a (.lst (ys.eraseIdx j)))
        | none => .bad)
      | none => .bad)
    | _ => .bad)
  | _, _, _ => .bad
def dputD (base a : Nat) (kvs : List (D × D)) (k v : D) (S : Sto) : R Unit :=
  if dicOk kvs k = true ∧ okPut base a v = true ∧ kvs.length < sizeMax then .ok () (S.set a (.dic (putD kvs k v))) else .bad
def setIxD (base : Nat) (o i v : D) (S : Sto) : R Unit :=
  match o, i with
  | .ref a, .int k => (match S[a]? with
    | some (.lst ys) => (match ixN ys.length k with
      | some j => if okPut base a v then .ok () (S.set a (.lst (ys.set j v))) else .bad
      | none => .bad)
    | some (.dic kvs) => dputD base a kvs (.int k) v S
    | _ => .bad)
  | .ref a, .tup k => (match S[a]? with
    | some (.dic kvs) => dputD base a kvs (.tup k) v S
    | _ => .bad)
  | _, _ => .bad

/-! ### rows of ints, rising, without equals -/
def ins (x : Int) : List Int → List Int
  | [] => [x]
  | y :: r => if x < y then x :: y :: r else if x = y then y :: r else y :: ins x r
def uniqI (ns : List Int) : List Int := ns.foldr ins []
/-- rows of ints in the tuples' order -/
def ltT : List Int → List Int → Bool
  | [], [] => false
  | [], _ :: _ => true
  | _ :: _, [] => false
  | x :: xs, y :: ys => if x = y then ltT xs ys else decide (x < y)
def insT (x : List Int) : List (List Int) → List (List Int)
  | [] => [x]
  | y :: r => if ltT x y = true then x :: y :: r else if x = y then y :: r else y :: insT x r
def uniqT (ks : List (List Int)) : List (List Int) := ks.foldr insT []
def tupsOf : List D → Option (List (List Int))
  | [] => some []
  | .tup xs :: r => (intsOf xs).bind fun k => (tupsOf r).map (k :: ·)
  | _ :: _ => none
/-- tuple(reversed(a tuple)) -/
def revD (x : D) (S : Sto) : R D := match x with
  | .tup xs => .ok (.tup xs.reverse) S
  | _ => .bad
def ssetD (x : D) (S : Sto) : R D := (lft (items x S) S).bind fun ys S => match intsOf ys with
  | some ns => if ns.length < 64 then alloc (.lst ((uniqI ns).map .int)) S else .bad
  | none => (lft (tupsOf ys) S).bind fun ks S => if ks.length < 64 then alloc (.lst ((uniqT ks).map fun k => .tup (k.map .int))) S else .bad
/-! ### slices -/
def sIx (n d : Nat) : Option Int → Nat
  | none => d
  | some v => if v < 0 then (v + (n : Int)).toNat else min v.toNat n
def cutD (xs : List D) (lo hi : Option Int) : List D := (xs.drop (sIx xs.length 0 lo)).take (sIx xs.length xs.length hi - sIx xs.length 0 lo)
/-- a bound of a slice: left out, or an int -/
def partD : List D → Option (Option Int)
  | [] => some none
  | [.int i] => some (some i)
  | _ => none
def cutC (xs : List Nat) (lo hi : Option Int) : List Nat := (xs.drop (sIx xs.length 0 lo)).take (sIx xs.length xs.length hi - sIx xs.length 0 lo)
def sliceD (x : D) (lo hi : Option Int) (S : Sto) : R D :=
  match x with
  | .tup xs => .ok (.tup (cutD xs lo hi)) S
  | .str z => .ok (.str ⟨(cutC z.cps.toList lo hi).toArray⟩) S
  | x => (lft (lstItems x S) S).bind fun ys S => alloc (.lst (cutD ys lo hi)) S
/-! ### what is walked -/
structure Src where
  items : List D
  watch : List (Nat × List D)
def Src.good (w : List (Nat × List D)) (S : Sto) : Prop := ∀ p ∈ w, S[p.1]? = some (.lst p.2)
def srcD (d : D) (S : Sto) : Option Src :=
  match d with
  | .tup xs => some ⟨xs, []⟩
  | .fls xs => some ⟨xs, []⟩
  | .ref a => match S[a]? with
    | some (.lst xs) => some ⟨xs, [(a, xs)]⟩
    | _ => none
  | _ => none
/-- the signs of a text -/
def signs (z : Str) : List D := z.cps.toList.map fun c => .str ⟨#[c]⟩
def srcS (d : D) (S : Sto) : Option Src :=
  match d with
  | .str z => some ⟨signs z, []⟩
  | d => srcD d S
def zipD (xs ys : List D) : List D := List.zipWith (fun x y => .tup [x, y]) xs ys
def big62 (i : Int) : Prop := -(2 ^ 62) ≤ i ∧ i < 2 ^ 62
instance (i : Int) : Decidable (big62 i) := by unfold big62; infer_instance
def rangeSrc (i j : D) : Option Src :=
  match i, j with
  | .int i, .int j => if big62 i ∧ big62 j ∧ (j - i).toNat ≤ sizeMax then some ⟨rangeL i j, []⟩ else none
  | _, _ => none
def rangeDnSrc (i j : D) : Option Src :=
  match i, j with
  | .int i, .int j => if big62 i ∧ big62 j ∧ (i - j).toNat ≤ sizeMax then some ⟨rangeDn i j, []⟩ else none
  | _, _ => none
def isTup : D → Bool
  | .tup _ => true
  | _ => false
def zipSrc (a b : D) (S : Sto) : Option Src :=
  if isTup a = isTup b then (srcD a S).bind fun s => (srcD b S).map fun t => ⟨zipD s.items t.items, s.watch ++ t.watch⟩ else none

/-- a comprehension's own names, forgotten -/
def wipeE (ρ : Env) : List Nat → Env
  | [] => ρ
  | v :: vs => (wipeE ρ vs).set v none
/-- targets -/
def asg (t : List Nat) (x : D) (ρ : Env) : Option Env :=
  match t with
  | [i] => some (ρ.set i (some x))
  | t => match x with
    | .tup xs => if xs.length = t.length then some ((t.zip xs).foldl (fun ρ p => ρ.set p.1 (some p.2)) ρ) else none
    | _ => none

open Classical in
noncomputable def forL (w : List (Nat × List D)) (step : D → Env → Sto → R Fl) : List D → Env → Sto → R Fl
  | [], ρ, S => if Src.good w S then .ok (.nx ρ) S else .bad
  | x :: xs, ρ, S => if Src.good w S then (step x ρ S).bind fun fl S' => match fl with
      | .nx ρ' => forL w step xs ρ' S'
      | .ct ρ' => forL w step xs ρ' S'
      | .bk ρ' => .ok (.nx ρ') S'
      | .rt v => .ok (.rt v) S'
    else .bad
open Classical in
noncomputable def compL (w : List (Nat × List D)) (step : D → Sto → R (Option D)) : List D → Sto → R (List D)
  | [], S => if Src.good w S then .ok [] S else .bad
  | x :: xs, S => if Src.good w S then (step x S).bind fun o S' => (compL w step xs S').bind fun r S'' => .ok (match o with
      | some v => v :: r
      | none => r) S''
    else .bad

open Classical in
/-- rows one behind the other -/
noncomputable def flatL (w : List (Nat × List D)) (step : D → Sto → R (List D)) : List D → Sto → R (List D)
  | [], S => if Src.good w S then .ok [] S else .bad
  | x :: xs, S => if Src.good w S then (step x S).bind fun vs S' => (flatL w step xs S').bind fun r S'' => .ok (vs ++ r) S'' else .bad
def allocB (vs : List D) (S : Sto) : R D := if vs.length ≤ sizeMax then alloc (.lst vs) S else .bad

/-- a while, so many turns at most -/
def whN (c : Env → Sto → R Bool) (b : Env → Sto → R Fl) : Nat → Env → Sto → R Fl
  | 0, _, _ => .bad
  | n + 1, ρ, S => (c ρ S).bind fun t S1 => if t = true then (b ρ S1).bind fun fl S2 => match fl with
      | .nx ρ' => whN c b n ρ' S2
      | .ct ρ' => whN c b n ρ' S2
      | .bk ρ' => .ok (.nx ρ') S2
      | .rt v => .ok (.rt v) S2
    else .ok (.nx ρ) S1
open Classical in
noncomputable def wh (c : Env → Sto → R Bool) (b : Env → Sto → R Fl) (ρ : Env) (S : Sto) : R Fl :=
  if h : ∃ n, whN c b n ρ S ≠ .bad then whN c b h.choose ρ S else .bad

/-! ### the run -/
/-- the meanings of a form: a value, a test, a row of values, what is walked -/
structure Mean where
  ev : Env → Sto → R D
  te : Env → Sto → R Bool
  es : Env → Sto → R (List D)
  it : Env → Sto → R Src
  il : Env → Sto → R Src
def Mean.of (f : Env → Sto → R D) : Mean :=
  ⟨f, fun ρ S => (f ρ S).bind fun x S => lft (truthD x S) S, fun _ _ => .bad, fun ρ S => (f ρ S).bind fun x S => lft (srcS x S) S, fun ρ S => (f ρ S).bind fun x S => lft (srcD x S) S⟩
def Mean.ofIt (f : Env → Sto → R Src) : Mean := ⟨fun _ _ => .bad, fun _ _ => .bad, fun _ _ => .bad, f, f⟩
def Mean.ofTe (f : Env → Sto → R D) (g : Env → Sto → R Bool) : Mean := { Mean.of f with te := g }
noncomputable def sem (c : Ctx) : E → Mean
  | .nil => ⟨fun _ _ => .bad, fun _ S => .ok true S, fun _ S => .ok [] S, fun _ _ => .bad, fun _ _ => .bad⟩
  | .cons a b => ⟨fun _ _ => .bad, fun _ _ => .bad, fun ρ S => ((sem c a).ev ρ S).bind fun x S => ((sem c b).es ρ S).bind fun xs S => .ok (x :: xs) S, fun _ _ => .bad, fun _ _ => .bad⟩
  | .var i => .of fun ρ S => (match ρ[i]? with
    | some (some d) => .ok d S
    | _ => .bad)
  | .num i => .of fun _ S => .ok (.int i) S
  | .cs s => .of fun _ S => .ok (.str s) S
  | .cb b => .of fun _ S => .ok (.bl b) S
  | .cn => .of fun _ S => .ok .non S
  | .glob k => .of fun _ S => lft (c.glob k) S
  | .tup es => .of fun ρ S => ((sem c es).es ρ S).bind fun vs S => .ok (.tup vs) S
  | .lst es => .of fun ρ S => ((sem c es).es ρ S).bind fun vs S => alloc (.lst vs) S
  | .dict => .of fun _ S => alloc (.dic []) S
  | .disp kvs => .of fun _ S => alloc (.dic (kvs.map fun p => (.str p.1, .str p.2))) S
  | .bin op a b => .of fun ρ S => ((sem c a).ev ρ S).bind fun x S => ((sem c b).ev ρ S).bind fun y S => binD op x y S
  | .neg a => .of fun ρ S => ((sem c a).ev ρ S).bind fun x S => (match x with
    | .int i => .ok (.int (-i)) S
    | _ => .bad)
  | .not a => .ofTe (fun ρ S => ((sem c a).ev ρ S).bind fun x S => (lft (truthD x S) S).bind fun t S => .ok (.bl (!t)) S) (fun ρ S => ((sem c a).te ρ S).bind fun t S => .ok (!t) S)
  | .cmp op a b => .of fun ρ S => ((sem c a).ev ρ S).bind fun x S => ((sem c b).ev ρ S).bind fun y S => (lft (cmpD op x y S) S).bind fun t S => .ok (.bl t) S
  | .chain o1 o2 a b e => .of fun ρ S => ((sem c a).ev ρ S).bind fun x S => ((sem c b).ev ρ S).bind fun y S => (lft (cmpD o1 x y S) S).bind fun t S =>
      if t = true then ((sem c e).ev ρ S).bind fun z S => (lft (cmpD o2 y z S) S).bind fun t S => .ok (.bl t) S else .ok (.bl false) S
  | .isN a => .of fun ρ S => ((sem c a).ev ρ S).bind fun x S => .ok (.bl (match x with
    | .non => true
    | _ => false)) S
  | .notN a => .of fun ρ S => ((sem c a).ev ρ S).bind fun x S => .ok (.bl (match x with
    | .non => false
    | _ => true)) S
  | .and a b => .ofTe (fun ρ S => ((sem c a).ev ρ S).bind fun x S => (match x with
      | .bl true => (sem c b).ev ρ S
      | .bl false => .ok (.bl false) S
      | _ => .bad)) (fun ρ S => ((sem c a).te ρ S).bind fun t S => if t = true then (sem c b).te ρ S else .ok false S)
  | .or a b => .ofTe (fun ρ S => ((sem c a).ev ρ S).bind fun x S => (match x with
      | .bl false => (sem c b).ev ρ S
      | .bl true => .ok (.bl true) S
      | _ => .bad)) (fun ρ S => ((sem c a).te ρ S).bind fun t S => if t = true then .ok true S else (sem c b).te ρ S)
  | .ite t a b => .ofTe (fun ρ S => ((sem c t).te ρ S).bind fun t S => if t = true then (sem c a).ev ρ S else (sem c b).ev ρ S) fun _ _ => .bad
  | .call f es => .of fun ρ S => ((sem c es).es ρ S).bind fun vs S => c.call f vs S
  | .bi f es => .of fun ρ S => ((sem c es).es ρ S).bind fun vs S => biD f vs S
  | .listOf a => .of fun ρ S => ((sem c a).it ρ S).bind fun s S => alloc (.lst s.items) S
  | .tupOf a => .of fun ρ S => ((sem c a).il ρ S).bind fun s S => .ok (.tup s.items) S
  | .sset a => .of fun ρ S => ((sem c a).ev ρ S).bind fun x S => ssetD x S
  | .revT a => .of fun ρ S => ((sem c a).ev ρ S).bind fun x S => revD x S
  | .isi a t => .of fun ρ S => ((sem c a).ev ρ S).bind fun x S => (lft (isiD x t) S).bind fun t S => .ok (.bl t) S
  | .ix a b => .of fun ρ S => ((sem c a).ev ρ S).bind fun x S => ((sem c b).ev ρ S).bind fun y S => lft (ixD x y S) S
  | .slice a lo hi => .of fun ρ S => ((sem c a).ev ρ S).bind fun x S => (((sem c lo).es ρ S).bind fun l S => lft (partD l) S).bind fun l S => (((sem c hi).es ρ S).bind fun h S => lft (partD h) S).bind fun h S => sliceD x l h S
  | .comp t it k e => .of fun ρ S => ((sem c it).it ρ S).bind fun s S => (compL s.watch (fun x S => (lft (asg t x (wipeE ρ t)) S).bind fun ρ' S =>
      ((sem c k).te ρ' S).bind fun b S => if b = true then ((sem c e).ev ρ' S).bind fun v S => .ok (some v) S else .ok none S) s.items S).bind fun vs S => alloc (.lst vs) S
  | .comp2 t it t2 it2 k e => .of fun ρ S => ((sem c it).it ρ S).bind fun s S => (flatL s.watch (fun x S => (lft (asg t x (wipeE ρ (t ++ t2))) S).bind fun ρ1 S =>
      ((sem c it2).it ρ1 S).bind fun s2 S => compL s2.watch (fun y S => (lft (asg t2 y (wipeE ρ1 t2)) S).bind fun ρ' S =>
      ((sem c k).te ρ' S).bind fun b S => if b = true then ((sem c e).ev ρ' S).bind fun v S => .ok (some v) S else .ok none S) s2.items S) s.items S).bind fun vs S => allocB vs S
  | .meth m o es => .of fun ρ S => ((sem c o).ev ρ S).bind fun x S => (lft (mtOk x S) S).bind fun _ S => ((sem c es).es ρ S).bind fun vs S => methD c.base m x vs S
  | .range1 a => .ofIt fun ρ S => ((sem c a).ev ρ S).bind fun x S => lft (rangeSrc (.int 0) x) S
  | .range2 a b => .ofIt fun ρ S => ((sem c a).ev ρ S).bind fun x S => ((sem c b).ev ρ S).bind fun y S => lft (rangeSrc x y) S
  | .rangeDn a b => .ofIt fun ρ S => ((sem c a).ev ρ S).bind fun x S => ((sem c b).ev ρ S).bind fun y S => lft (rangeDnSrc x y) S
  | .zip a b => .ofIt fun ρ S => ((sem c a).ev ρ S).bind fun x S => ((sem c b).ev ρ S).bind fun y S => lft (zipSrc x y S) S

noncomputable abbrev eval (c : Ctx) (e : E) (ρ : Env) (S : Sto) : R D := (sem c e).ev ρ S
noncomputable abbrev test (c : Ctx) (e : E) (ρ : Env) (S : Sto) : R Bool := (sem c e).te ρ S
noncomputable abbrev evals (c : Ctx) (e : E) (ρ : Env) (S : Sto) : R (List D) := (sem c e).es ρ S
noncomputable abbrev iter (c : Ctx) (e : E) (ρ : Env) (S : Sto) : R Src := (sem c e).it ρ S

noncomputable def exec (c : Ctx) : T → Env → Sto → R Fl
  | .skip, ρ, S => .ok (.nx ρ) S
  | .seq a b, ρ, S => (exec c a ρ S).bind fun fl S => (match fl with
    | .nx ρ' => exec c b ρ' S
    | fl => .ok fl S)
  | .set i e, ρ, S => (eval c e ρ S).bind fun x S => .ok (.nx (ρ.set i (some x))) S
  | .setT is e, ρ, S => (eval c e ρ S).bind fun x S => (lft (asg is x ρ) S).bind fun ρ' S => .ok (.nx ρ') S
  | .setIx o i e, ρ, S => (eval c e ρ S).bind fun v S => (eval c o ρ S).bind fun x S => (eval c i ρ S).bind fun k S => (setIxD c.base x k v S).bind fun _ S => .ok (.nx ρ) S
  | .aug i op e, ρ, S => (match ρ[i]? with
    | some (some x) => (eval c e ρ S).bind fun y S => (augD op x y S).bind fun z S => .ok (.nx (ρ.set i (some z))) S
    | _ => .bad)
  | .augIx o i op e, ρ, S => (eval c o ρ S).bind fun x S => (eval c i ρ S).bind fun k S => (lft (lixD x k S) S).bind fun u S => (eval c e ρ S).bind fun y S =>
      (augD op u y S).bind fun z S => (setIxD c.base x k z S).bind fun _ S => .ok (.nx ρ) S
  | .ife t a b, ρ, S => (test c t ρ S).bind fun t S => if t = true then exec c a ρ S else exec c b ρ S
  | .for_ t it b, ρ, S => (iter c it ρ S).bind fun s S => forL s.watch (fun x ρ S => (lft (asg t x ρ) S).bind fun ρ' S => exec c b ρ' S) s.items ρ S
  | .while_ t b, ρ, S => wh (fun ρ S => test c t ρ S) (fun ρ S => exec c b ρ S) ρ S
  | .ret e, ρ, S => (eval c e ρ S).bind fun x S => .ok (.rt x) S
  | .expr e, ρ, S => (eval c e ρ S).bind fun _ S => .ok (.nx ρ) S
  | .brk, ρ, S => .ok (.bk ρ) S
  | .cont, ρ, S => .ok (.ct ρ) S

/-! ### calls -/
def O.pur : O → Bool
  | .lst xs => D.purs xs
  | .dic kvs => kvs.all fun p => p.1.pur && p.2.pur
/-- what a call leaves: a pure answer leaves nothing new, a new object of pure data leaves it alone -/
def leave (base : Nat) (v : D) (S : Sto) : R D :=
  if v.pur = true then .ok v (S.take base) else match v with
    | .ref a => if base ≤ a then (match S[a]? with
      | some o => if o.pur = true then .ok (.ref base) (S.take base ++ [o]) else .ok v S
      | none => .bad) else .ok v S
    | _ => .ok v S
noncomputable def callN (P : List Fn) (g : Nat → Option D) : Nat → Nat → List D → Sto → R D
  | 0, _, _, _ => .bad
  | n + 1, f, vs, S => (match P[f]? with
    | none => .bad
    | some fn => if vs.length = fn.np then (exec ⟨callN P g n, S.length, g⟩ fn.body (vs.map some ++ List.replicate (fn.ns - fn.np) none) S).bind fun fl S' => (match fl with
        | .nx _ => leave S.length .non S'
        | .rt v => leave S.length v S'
        | _ => .bad) else .bad)
end PV

namespace PV
open PySem PySem.Spec PyProof.Rows L2
abbrev Sg := List (Option V)
/-- a list that nobody changes -/
def Fz (K : PySem.W.Frag) (H : Hp) (a : Addr) (xs : List V) : Prop :=
  (∃ o, H a = some (.frz o (.lst xs)) ∧ xs.length ≤ sizeLine) ∨
    ∃ (o : Obj) (its : Array Value) (n : Nat), K.lookup a = some o ∧ o.cls = .type "list" ∧ o.dict = none ∧ o.data = .seq its n ∧ its.size ≤ sizeLine ∧ Vals xs its.toList
theorem Fz.sq {K : PySem.W.Frag} {H : Hp} {a : Addr} {xs : List V} (h : Fz K H a xs) : SqL K H a xs := by
  rcases h with ⟨o, h, _⟩ | h
  · exact .inl (.inr ⟨o, h⟩)
  · exact .inr h
/-- a tuple of the module's own -/
def Ct (K : PySem.W.Frag) (a : Addr) (xs : List V) : Prop :=
  ∃ (o : Obj) (its : Array Value) (n : Nat), K.lookup a = some o ∧ o.cls = .type "tuple" ∧ o.data = .seq its n ∧ its.size ≤ sizeLine ∧ Vals xs its.toList
/-- a dict of the module's own, texts by texts -/
def CD (K : PySem.W.Frag) (a : Addr) (kvs : List (Str × Str)) : Prop :=
  PySem.W.nsIn K mainGlobals "OBSTACLES" = some (some (.ref a)) ∧ ∀ z : Str, ∃ r, PySem.W.nsIn K a z = some r ∧ (match kvs.find? fun p => p.1 == z with
    | some p => (∃ t, r = some (.str p.2 t)) ∧ p.2.length ≤ sizeMax ∧ PySem.PyData.strOk p.2 = true
    | none => r = none)
mutual
inductive DV (K : PySem.W.Frag) (m : List Addr) (H : Hp) : V → D → Prop
  | non : DV K m H .non .non
  | bl (b : Bool) : DV K m H (.bl b) (.bl b)
  | int (i : Int) : DV K m H (.int i) (.int i)
  | str (s : Str) (h : s.length ≤ sizeMax ∧ PySem.PyData.strOk s = true) : DV K m H (.str s) (.str s)
  | tup {a : Addr} {xs : List V} {ds : List D} : H a = some (.tup xs) → DVs K m H xs ds → DV K m H (.ref a) (.tup ds)
  | fls {a : Addr} {xs : List V} {ds : List D} : Fz K H a xs → DVs K m H xs ds → DV K m H (.ref a) (.fls ds)
  | ref {a : Addr} {n : Nat} : m[n]? = some a → DV K m H (.ref a) (.ref n)
  | ctu {a : Addr} {xs : List V} {ds : List D} : Ct K a xs → DVs K m H xs ds → DV K m H (.ref a) (.ctu ds)
  | cdc {a : Addr} {kvs : List (Str × Str)} : CD K a kvs → DV K m H (.ref a) (.cdc kvs)
inductive DVs (K : PySem.W.Frag) (m : List Addr) (H : Hp) : List V → List D → Prop
  | nil : DVs K m H [] []
  | cons {v : V} {vs : List V} {d : D} {ds : List D} : DV K m H v d → DVs K m H vs ds → DVs K m H (v :: vs) (d :: ds)
end
/-- a key of a dict as a value -/
def keyD : Key → D
  | .inl i => .int i
  | .inr x => .str x
def keyT (k : List Key) : D := .tup (k.map keyD)
abbrev DKs (K : PySem.W.Frag) (m : List Addr) (H : Hp) {κ : Type} (f : κ → D) : List (κ × V) → List (D × D) → Prop := Paired fun p q => q.1 = f p.1 ∧ DV K m H p.2 q.2
def OV (K : PySem.W.Frag) (m : List Addr) (H : Hp) (a : Addr) : O → Prop
  | .lst ds => ∃ xs, H a = some (.lst xs) ∧ DVs K m H xs ds
  | .dic kvs => (∃ ks, H a = some (.dK ks) ∧ DKs K m H keyD ks kvs) ∨ ∃ ks, H a = some (.dT ks) ∧ DKs K m H keyT ks kvs
/-- a thing that may be changed -/
def isOb : HO → Bool
  | .lst _ => true
  | .dK _ => true
  | .dT _ => true
  | _ => false
theorem OV.at {K : PySem.W.Frag} {m : List Addr} {H : Hp} {a : Addr} {o : O} (h : OV K m H a o) : ∃ u, H a = some u ∧ isOb u = true := by
  cases o with
  | lst ds => obtain ⟨xs, e, _⟩ := h; exact ⟨_, e, rfl⟩
  | dic kvs =>
    rcases h with ⟨ks, e, _⟩ | ⟨ks, e, _⟩
    · exact ⟨_, e, rfl⟩
    · exact ⟨_, e, rfl⟩
def hoLen : HO → Prop
  | .lst xs => xs.length ≤ sizeLine
  | .tup xs => xs.length ≤ sizeLine
  | .frz _ (.tup xs) => xs.length ≤ sizeLine
  | _ => True
structure Rl (K : PySem.W.Frag) (m : List Addr) (S : Sto) (H : Hp) : Prop where
  len : m.length = S.length
  nd : m.Nodup
  ob : ∀ (i : Nat) (a : Addr) (o : O), m[i]? = some a → S[i]? = some o → OV K m H a o
  hb : ∀ a o, H a = some o → hoLen o
structure Gro (m m' : List Addr) (H H' : Hp) : Prop where
  ex : ∃ t, m' = m ++ t ∧ ∀ a ∈ t, H a = none
  fr : ∀ a o, a ∉ m → H a = some o → H' a = some o
  dm : ∀ a, H a ≠ none → H' a ≠ none
/-- the same, but that a list which the store does not tell may have changed -/
structure GroW (m m' : List Addr) (H H' : Hp) : Prop where
  ex : ∃ t, m' = m ++ t ∧ ∀ a ∈ t, H a = none
  fr : ∀ a o, isOb o = false → a ∉ m → H a = some o → H' a = some o
  dm : ∀ a, H a ≠ none → H' a ≠ none
def EnvR (K : PySem.W.Frag) (m : List Addr) (H : Hp) (σ : Sg) (ρ : Env) : Prop :=
  σ.length = ρ.length ∧ ∀ (i : Nat) (d : D), ρ[i]? = some (some d) → ∃ v, σ[i]? = some (some v) ∧ DV K m H v d

section
variable {K : PySem.W.Frag} {m m' m'' : List Addr} {H H' H'' : Hp} {S S' : Sto} {σ : Sg} {ρ : Env}

theorem Gro.refl (m : List Addr) (H : Hp) : Gro m m H H := ⟨⟨[], by simp, by simp⟩, fun _ _ _ h => h, fun _ h => h⟩
theorem Gro.trans (g : Gro m m' H H') (g' : Gro m' m'' H' H'') : Gro m m'' H H'' := by
  obtain ⟨⟨t, rfl, ht⟩, f, d⟩ := g
  obtain ⟨⟨t', rfl, ht'⟩, f', d'⟩ := g'
  refine ⟨⟨t ++ t', by simp, fun a ha => ?_⟩, fun a o h1 h2 => ?_, fun a h => d' a (d a h)⟩
  · rcases List.mem_append.mp ha with h | h
    · exact ht a h
    · cases q : H a with
      | none => rfl
      | some o => exact absurd (ht' a h) (d a (by rw [q]; simp))
  · refine f' a o (fun h => ?_) (f a o h1 h2)
    rcases List.mem_append.mp h with h | h
    · exact h1 h
    · rw [ht a h] at h2; cases h2
theorem Gro.get (g : Gro m m' H H') {n : Nat} {a : Addr} (h : m[n]? = some a) : m'[n]? = some a := by
  obtain ⟨⟨t, rfl, _⟩, _, _⟩ := g
  have := (List.getElem?_eq_some_iff.mp h).1
  rw [List.getElem?_append_left this]; exact h
theorem Rl.mem (r : Rl K m S H) {a : Addr} (h : a ∈ m) : ∃ u, H a = some u ∧ isOb u = true := by
  obtain ⟨i, hi⟩ := List.mem_iff_getElem?.mp h
  have hl := (List.getElem?_eq_some_iff.mp hi).1
  rw [r.len] at hl
  exact (r.ob i a S[i] hi (by simp [hl])).at
theorem Rl.notT (r : Rl K m S H) {a : Addr} {o : HO} (h : H a = some o) (hn : isOb o = false) : a ∉ m := fun hm => by
  obtain ⟨u, e, hu⟩ := r.mem hm
  rw [h] at e; cases e; rw [hn] at hu; cases hu
theorem Rl.notN (r : Rl K m S H) {a : Addr} (h : H a = none) : a ∉ m := fun hm => by
  obtain ⟨u, e, hu⟩ := r.mem hm
  rw [h] at e; cases e
theorem Rl.tupT (r : Rl K m S H) (g : Gro m m' H H') {a : Addr} {xs : List V} (h : H a = some (.tup xs)) : H' a = some (.tup xs) := g.fr a _ (r.notT h rfl) h
theorem Rl.fz (r : Rl K m S H) (g : Gro m m' H H') {a : Addr} {xs : List V} (h : Fz K H a xs) : Fz K H' a xs := by
  rcases h with ⟨o, h, hl⟩ | h
  · exact .inl ⟨o, g.fr a _ (r.notT h rfl) h, hl⟩
  · exact .inr h
mutual
theorem DV.mono (r : Rl K m S H) (g : Gro m m' H H') : ∀ {v : V} {d : D}, DV K m H v d → DV K m' H' v d
  | _, _, .non => .non
  | _, _, .bl b => .bl b
  | _, _, .int i => .int i
  | _, _, .str s h => .str s h
  | _, _, .tup h t => .tup (r.tupT g h) (DVs.mono r g t)
  | _, _, .fls h t => .fls (r.fz g h) (DVs.mono r g t)
  | _, _, .ref h => .ref (g.get h)
  | _, _, .ctu h t => .ctu h (DVs.mono r g t)
  | _, _, .cdc h => .cdc h
theorem DVs.mono (r : Rl K m S H) (g : Gro m m' H H') : ∀ {vs : List V} {ds : List D}, DVs K m H vs ds → DVs K m' H' vs ds
  | _, _, .nil => .nil
  | _, _, .cons h t => .cons (DV.mono r g h) (DVs.mono r g t)
end
theorem Gro.w (g : Gro m m' H H') : GroW m m' H H' := ⟨g.ex, fun a o _ h1 h2 => g.fr a o h1 h2, g.dm⟩
theorem GroW.trans (g : GroW m m' H H') (g' : GroW m' m'' H' H'') : GroW m m'' H H'' := by
  obtain ⟨⟨t, rfl, ht⟩, f, d⟩ := g
  obtain ⟨⟨t', rfl, ht'⟩, f', d'⟩ := g'
  refine ⟨⟨t ++ t', by simp, fun a ha => ?_⟩, fun a o h0 h1 h2 => ?_, fun a h => d' a (d a h)⟩
  · rcases List.mem_append.mp ha with h | h
    · exact ht a h
    · cases q : H a with
      | none => rfl
      | some o => exact absurd (ht' a h) (d a (by rw [q]; simp))
  · refine f' a o h0 (fun h => ?_) (f a o h0 h1 h2)
    rcases List.mem_append.mp h with h | h
    · exact h1 h
    · rw [ht a h] at h2; cases h2
theorem GroW.get (g : GroW m m' H H') {n : Nat} {a : Addr} (h : m[n]? = some a) : m'[n]? = some a := by
  obtain ⟨⟨t, rfl, _⟩, _, _⟩ := g
  have := (List.getElem?_eq_some_iff.mp h).1
  rw [List.getElem?_append_left this]; exact h
theorem Rl.tupTW (r : Rl K m S H) (g : GroW m m' H H') {a : Addr} {xs : List V} (h : H a = some (.tup xs)) : H' a = some (.tup xs) := g.fr a _ rfl (r.notT h rfl) h
theorem Rl.fzW (r : Rl K m S H) (g : GroW m m' H H') {a : Addr} {xs : List V} (h : Fz K H a xs) : Fz K H' a xs := by
  rcases h with ⟨o, h, hl⟩ | h
  · exact .inl ⟨o, g.fr a _ rfl (r.notT h rfl) h, hl⟩
  · exact .inr h
mutual
theorem DV.monoW (r : Rl K m S H) (g : GroW m m' H H') : ∀ {v : V} {d : D}, DV K m H v d → DV K m' H' v d
  | _, _, .non => .non
  | _, _, .bl b => .bl b
  | _, _, .int i => .int i
  | _, _, .str s h => .str s h
  | _, _, .tup h t => .tup (r.tupTW g h) (DVs.monoW r g t)
  | _, _, .fls h t => .fls (r.fzW g h) (DVs.monoW r g t)
  | _, _, .ref h => .ref (g.get h)
  | _, _, .ctu h t => .ctu h (DVs.monoW r g t)
  | _, _, .cdc h => .cdc h
theorem DVs.monoW (r : Rl K m S H) (g : GroW m m' H H') : ∀ {vs : List V} {ds : List D}, DVs K m H vs ds → DVs K m' H' vs ds
  | _, _, .nil => .nil
  | _, _, .cons h t => .cons (DV.monoW r g h) (DVs.monoW r g t)
end
theorem OV.mono (r : Rl K m S H) (g : Gro m m' H H') {a : Addr} (e : H' a = H a) {o : O} (h : OV K m H a o) : OV K m' H' a o := by
  cases o with
  | lst ds => obtain ⟨xs, q, t⟩ := h; exact ⟨xs, e.trans q, t.mono r g⟩
  | dic kvs =>
    rcases h with ⟨ks, q, t⟩ | ⟨ks, q, t⟩
    · exact .inl ⟨ks, e.trans q, Paired.mapP t fun _ _ z => ⟨z.1, z.2.mono r g⟩⟩
    · exact .inr ⟨ks, e.trans q, Paired.mapP t fun _ _ z => ⟨z.1, z.2.mono r g⟩⟩
theorem EnvR.mono (r : Rl K m S H) (g : Gro m m' H H') (e : EnvR K m H σ ρ) : EnvR K m' H' σ ρ :=
  ⟨e.1, fun i d h => let ⟨v, h1, h2⟩ := e.2 i d h; ⟨v, h1, h2.mono r g⟩⟩
theorem EnvR.set (e : EnvR K m H σ ρ) {v : V} {d : D} (h : DV K m H v d) (i : Nat) : EnvR K m H (σ.set i (some v)) (ρ.set i (some d)) := by
  refine ⟨by simp [e.1], fun j x hx => ?_⟩
  by_cases hj : i = j
  · subst hj
    have hl : i < ρ.length := by
      have := (List.getElem?_eq_some_iff.mp hx).1
      simpa using this
    rw [List.getElem?_set_self hl] at hx
    cases hx
    exact ⟨v, by rw [List.getElem?_set_self (by rw [e.1]; exact hl)], h⟩
  · rw [List.getElem?_set_ne hj] at hx
    obtain ⟨w, h1, h2⟩ := e.2 j x hx
    exact ⟨w, by rw [List.getElem?_set_ne hj]; exact h1, h2⟩

theorem DVs.length : ∀ {vs : List V} {ds : List D}, DVs K m H vs ds → vs.length = ds.length
  | _, _, .nil => rfl
  | _, _, .cons _ t => by rw [List.length_cons, List.length_cons, DVs.length t]
theorem DVs.get : ∀ {vs : List V} {ds : List D} {i : Nat} {d : D}, DVs K m H vs ds → ds[i]? = some d → ∃ v, vs[i]? = some v ∧ DV K m H v d
  | _, _, _, _, .nil, e => by simp at e
  | _, _, 0, _, .cons h _, e => by simp at e; subst e; exact ⟨_, rfl, h⟩
  | _, _, i + 1, _, .cons _ t, e => by simpa using DVs.get (i := i) t (by simpa using e)
theorem DVs.append : ∀ {vs ws : List V} {ds es : List D}, DVs K m H vs ds → DVs K m H ws es → DVs K m H (vs ++ ws) (ds ++ es)
  | _, _, _, _, .nil, s => s
  | _, _, _, _, .cons h t, s => .cons h (DVs.append t s)
theorem DVs.set : ∀ {vs : List V} {ds : List D} {v : V} {d : D} (i : Nat), DVs K m H vs ds → DV K m H v d → DVs K m H (vs.set i v) (ds.set i d)
  | _, _, _, _, _, .nil, _ => .nil
  | _, _, _, _, 0, .cons _ t, h => .cons h t
  | _, _, _, _, i + 1, .cons q t, h => .cons q (DVs.set i t h)

theorem DVs.eraseIdx : ∀ {vs : List V} {ds : List D} (i : Nat), DVs K m H vs ds → DVs K m H (vs.eraseIdx i) (ds.eraseIdx i)
  | _, _, _, .nil => .nil
  | _, _, 0, .cons _ t => t
  | _, _, i + 1, .cons q t => .cons q (DVs.eraseIdx i t)
/-- a new tuple -/
theorem Gro.new (m : List Addr) {p : Addr} (o : HO) (hp : H p = none) : Gro m m H (upd H p o) :=
  ⟨⟨[], by simp, by simp⟩, fun a u _ h => by rw [upd_ne (ne_of_none h hp)]; exact h, fun a h => by
    unfold upd; split
    · simp
    · exact h⟩
theorem Gro.newL (m : List Addr) {p : Addr} (o : HO) (hp : H p = none) : Gro m (m ++ [p]) H (upd H p o) :=
  ⟨⟨[p], rfl, by simp [hp]⟩, (Gro.new m o hp).fr, (Gro.new m o hp).dm⟩
theorem Rl.new (r : Rl K m S H) {p : Addr} {o : HO} (hp : H p = none) (ho : hoLen o) : Rl K m S (upd H p o) := by
  refine ⟨r.len, r.nd, fun i a u h1 h2 => ?_, fun a u h => ?_⟩
  · have q := r.ob i a u h1 h2
    obtain ⟨z, e, _⟩ := q.at
    exact q.mono r (Gro.new m o hp) (upd_ne (ne_of_none e hp))
  · unfold upd at h
    split at h
    · cases h; exact ho
    · exact r.hb a u h
theorem Rl.newO (r : Rl K m S H) {p : Addr} {o : HO} {O' : O} (hp : H p = none) (ho : hoLen o) (hv : OV K (m ++ [p]) (upd H p o) p O') : Rl K (m ++ [p]) (S ++ [O']) (upd H p o) := by
  have g : Gro m (m ++ [p]) H (upd H p o) := Gro.newL m _ hp
  have hm : p ∉ m := r.notN hp
  refine ⟨by simp [r.len], ?_, fun i a u h1 h2 => ?_, (r.new (o := o) hp ho).hb⟩
  · rw [List.nodup_append]
    refine ⟨r.nd, by simp, fun a ha b hb => ?_⟩
    have : b = p := by simpa using hb
    subst this
    rintro rfl
    exact hm ha
  · by_cases hi : i < S.length
    · rw [List.getElem?_append_left (by rw [r.len]; exact hi)] at h1
      rw [List.getElem?_append_left hi] at h2
      have q := r.ob i a u h1 h2
      obtain ⟨z, e, _⟩ := q.at
      exact q.mono r g (upd_ne (ne_of_none e hp))
    · have hl : i = S.length := by
        have := (List.getElem?_eq_some_iff.mp h2).1
        simp at this; omega
      subst hl
      rw [List.getElem?_append_right (by rw [r.len]; exact Nat.le_refl _), r.len] at h1
      rw [List.getElem?_append_right (Nat.le_refl _)] at h2
      simp at h1 h2
      subst h1 h2
      exact hv
theorem Rl.newL (r : Rl K m S H) {p : Addr} {vs : List V} {ds : List D} (hp : H p = none) (ho : vs.length ≤ sizeLine) (hv : DVs K m H vs ds) : Rl K (m ++ [p]) (S ++ [.lst ds]) (upd H p (.lst vs)) :=
  r.newO hp ho ⟨vs, upd_same, hv.mono r (Gro.newL m _ hp)⟩
/-- a list of the store is changed -/
theorem Gro.put (r : Rl K m S H) {p : Addr} (o : HO) (hp : p ∈ m) : Gro m m H (upd H p o) :=
  ⟨⟨[], by simp, by simp⟩, fun a u ha h => by rw [upd_ne (show a ≠ p by rintro rfl; exact ha hp)]; exact h, fun a h => by
    unfold upd; split
    · simp
    · exact h⟩
theorem Rl.putO (r : Rl K m S H) {p : Addr} {n : Nat} {o : HO} {O' : O} (hp : m[n]? = some p) (ho : hoLen o) (hv : OV K m (upd H p o) p O') : Rl K m (S.set n O') (upd H p o) := by
  have hm : p ∈ m := List.mem_of_getElem? hp
  have g : Gro m m H (upd H p o) := Gro.put r _ hm
  have hl : n < S.length := by rw [← r.len]; exact (List.getElem?_eq_some_iff.mp hp).1
  refine ⟨by simp [r.len], r.nd, fun i a u h1 h2 => ?_, fun a u h => ?_⟩
  · by_cases hi : n = i
    · subst hi
      rw [hp] at h1; cases h1
      rw [List.getElem?_set_self hl] at h2; cases h2
      exact hv
    · rw [List.getElem?_set_ne hi] at h2
      have hne : a ≠ p := fun e => by
        subst e
        obtain ⟨l1, e1⟩ := List.getElem?_eq_some_iff.mp hp
        obtain ⟨l2, e2⟩ := List.getElem?_eq_some_iff.mp h1
        exact hi ((List.getElem_inj r.nd).mp (e1.trans e2.symm))
      exact (r.ob i a u h1 h2).mono r g (upd_ne hne)
  · unfold upd at h
    split at h
    · cases h; exact ho
    · exact r.hb a u h
theorem Rl.put (r : Rl K m S H) {p : Addr} {n : Nat} {vs : List V} {ds : List D} (hp : m[n]? = some p) (ho : vs.length ≤ sizeLine) (hv : DVs K m H vs ds) : Rl K m (S.set n (.lst ds)) (upd H p (.lst vs)) :=
  r.putO hp ho ⟨vs, upd_same, hv.mono r (Gro.put r _ (List.mem_of_getElem? hp))⟩
theorem Rl.at (r : Rl K m S H) {a : Addr} {n : Nat} {ds : List D} (h : m[n]? = some a) (e : S[n]? = some (.lst ds)) : ∃ xs, H a = some (.lst xs) ∧ DVs K m H xs ds := r.ob n a _ h e
theorem Rl.lenT (r : Rl K m S H) {a : Addr} {xs : List V} (h : H a = some (.tup xs)) : xs.length ≤ sizeLine := r.hb a _ h
theorem Rl.lenF (r : Rl K m S H) {a : Addr} {xs : List V} (h : Fz K H a xs) : xs.length ≤ sizeLine := by
  rcases h with ⟨o, h, hl⟩ | ⟨o, its, n, _, _, _, _, z, rv⟩
  · exact hl
  · have := Vals.length rv
    simp at this; omega
end

/-! ### what is wanted behind a run -/
def Cont {α β : Type} (K : PySem.W.Frag) (RV : List Addr → Hp → β → α → Prop) (r : R α) (m : List Addr) (H : Hp) (Q : β → Hp → Prop) : Prop :=
  match r with
  | .ok a S' => ∀ m' H' b, Gro m m' H H' → Rl K m' S' H' → RV m' H' b a → Q b H'
  | _ => False
theorem Cont.bind {α β α' β' : Type} {K : PySem.W.Frag} {RV : List Addr → Hp → β → α → Prop} {RV' : List Addr → Hp → β' → α' → Prop} {r : R α} {g : α → Sto → R α'} {m : List Addr} {H : Hp} {Q : β' → Hp → Prop}
    (h : Cont K RV' (r.bind g) m H Q) : Cont K RV r m H fun b H1 => ∃ a m1 S1, Gro m m1 H H1 ∧ Rl K m1 S1 H1 ∧ RV m1 H1 b a ∧ Cont K RV' (g a S1) m1 H1 Q := by
  cases r with
  | ok a S' =>
    intro m' H' b G R' v
    refine ⟨a, m', S', G, R', v, ?_⟩
    have h' : Cont K RV' (g a S') m H Q := h
    revert h'
    unfold Cont
    cases g a S' with
    | ok a2 S2 => exact fun h m2 H2 b2 G2 => h m2 H2 b2 (G.trans G2)
    | exc _ _ _ => exact id
    | bad => exact id
  | exc _ _ _ => exact h
  | bad => exact h
theorem Cont.mono {α β : Type} {K : PySem.W.Frag} {RV : List Addr → Hp → β → α → Prop} {r : R α} {m m' : List Addr} {H H' : Hp} {Q : β → Hp → Prop} (h : Cont K RV r m H Q) (G : Gro m m' H H') : Cont K RV r m' H' Q := by
  cases r with
  | ok a S' => exact fun m2 H2 b2 G2 => h m2 H2 b2 (G.trans G2)
  | exc _ _ _ => exact h
  | bad => exact h
theorem Cont.imp {α β : Type} {K : PySem.W.Frag} {RV : List Addr → Hp → β → α → Prop} {r : R α} {m : List Addr} {H : Hp} {Q Q' : β → Hp → Prop} (h : Cont K RV r m H Q) (f : ∀ b H, Q b H → Q' b H) : Cont K RV r m H Q' := by
  cases r with
  | ok a S' => exact fun m2 H2 b2 G2 R2 V2 => f _ _ (h m2 H2 b2 G2 R2 V2)
  | exc _ _ _ => exact h
  | bad => exact h
/-- at an answer that stands -/
theorem Cont.done {α β : Type} {K : PySem.W.Frag} {RV : List Addr → Hp → β → α → Prop} {a : α} {S : Sto} {m : List Addr} {H : Hp} {Q : β → Hp → Prop} {b : β} (h : Cont K RV (.ok a S) m H Q) (r : Rl K m S H) (v : RV m H b a) : Q b H := h m H b (Gro.refl _ _) r v

def BR : List Addr → Hp → Bool → Bool → Prop := fun _ _ b a => b = a
def tEv (K : PySem.W.Frag) (f : Env → Sto → R D) : TE := fun σ H Q => ∃ m S ρ, Rl K m S H ∧ EnvR K m H σ ρ ∧ Cont K (DV K) (f ρ S) m H Q
def tTe (K : PySem.W.Frag) (f : Env → Sto → R Bool) : TT := fun σ H Q => ∃ m S ρ, Rl K m S H ∧ EnvR K m H σ ρ ∧ Cont K BR (f ρ S) m H Q
def tEs (K : PySem.W.Frag) (f : Env → Sto → R (List D)) : TA := fun σ H Q => ∃ m S ρ, Rl K m S H ∧ EnvR K m H σ ρ ∧ Cont K (DVs K) (f ρ S) m H Q
end PV

namespace PV
open PySem PySem.Spec PyProof.Rows L2
theorem max_line : sizeMax = sizeLine := by rw [sizeLine_eq]; rfl

section
variable {K : PySem.W.Frag} {m : List Addr} {H : Hp} {S : Sto}
/-- readings of operations by values -/
def r1 (K : PySem.W.Frag) (f : D → Sto → R D) : V → Hp → VK → Prop := fun v H Q => ∃ m S x, Rl K m S H ∧ DV K m H v x ∧ Cont K (DV K) (f x S) m H Q
def r2 (K : PySem.W.Frag) (f : D → D → Sto → R D) : R2 := fun v u H Q => ∃ m S x y, Rl K m S H ∧ DV K m H v x ∧ DV K m H u y ∧ Cont K (DV K) (f x y S) m H Q
def rN (K : PySem.W.Frag) (f : List D → Sto → R D) : List V → Hp → VK → Prop := fun vs H Q => ∃ m S xs, Rl K m S H ∧ DVs K m H vs xs ∧ Cont K (DV K) (f xs S) m H Q
def rM (K : PySem.W.Frag) (f : D → List D → Sto → R D) : V → List V → Hp → VK → Prop := fun v vs H Q => ∃ m S x xs, Rl K m S H ∧ DV K m H v x ∧ DVs K m H vs xs ∧ Cont K (DV K) (f x xs S) m H Q
def r1B (K : PySem.W.Frag) (f : D → Sto → R Bool) : V → Hp → (Bool → Hp → Prop) → Prop := fun v H Q => ∃ m S x, Rl K m S H ∧ DV K m H v x ∧ Cont K BR (f x S) m H Q

theorem newTup (r : Rl K m S H) {zs : List V} {ds : List D} {Q : VK} (hv : DVs K m H zs ds) (hz : zs.length ≤ sizeLine) (h : Cont K (DV K) (.ok (.tup ds) S) m H Q) : ∀ p, H p = none → Q (.ref p) (upd H p (.tup zs)) := fun p hp =>
  h m _ (.ref p) (Gro.new m _ hp) (r.new hp hz) (.tup upd_same (hv.mono r (Gro.new m _ hp)))
theorem newLst (r : Rl K m S H) {zs : List V} {ds : List D} {Q : VK} (hv : DVs K m H zs ds) (hz : zs.length ≤ sizeLine) (h : Cont K (DV K) (alloc (.lst ds) S) m H Q) : ∀ p, H p = none → Q (.ref p) (upd H p (.lst zs)) := fun p hp => by
  refine h (m ++ [p]) _ (.ref p) (Gro.newL m _ hp) (r.newL hp hz hv) (.ref ?_)
  rw [List.getElem?_append_right (by rw [r.len]; exact Nat.le_refl _), r.len]
  simp
theorem newDic (r : Rl K m S H) {Q : VK} (h : Cont K (DV K) (alloc (.dic []) S) m H Q) : ∀ p, H p = none → Q (.ref p) (upd H p (.dK [])) := fun p hp => by
  refine h (m ++ [p]) _ (.ref p) (Gro.newL m _ hp) (r.newO hp trivial (.inl ⟨[], upd_same, .nil⟩)) (.ref ?_)
  rw [List.getElem?_append_right (by rw [r.len]; exact Nat.le_refl _), r.len]
  simp
theorem lstOf (r : Rl K m S H) {a : Addr} {n : Nat} {ds : List D} (h : m[n]? = some a) (e : S[n]? = some (.lst ds)) : ∃ xs, H a = some (.lst xs) ∧ DVs K m H xs ds ∧ xs.length ≤ sizeLine :=
  let ⟨xs, h1, h2⟩ := r.at h e; ⟨xs, h1, h2, r.hb a _ h1⟩

theorem DVs.rep {xs : List V} {ds : List D} (h : DVs K m H xs ds) : ∀ k : Nat, DVs K m H (List.replicate k xs).flatten (List.replicate k ds).flatten
  | 0 => .nil
  | k + 1 => by
    rw [List.replicate_succ, List.replicate_succ, List.flatten_cons, List.flatten_cons]
    exact h.append (DVs.rep h k)
theorem len_rep {α : Type} (xs : List α) (k : Nat) : (List.replicate k xs).flatten.length = xs.length * k := by
  induction k with
  | zero => simp
  | succ k ih => rw [List.replicate_succ, List.flatten_cons, List.length_append, ih, Nat.mul_succ]; omega

variable {X : Cx}
theorem strOk_app {a b : Str} (h : PyData.strOk a = true) (h' : PyData.strOk b = true) : PyData.strOk (a ++ b) = true := by
  unfold PyData.strOk at *
  show (a.cps ++ b.cps).all _ = true
  rw [Array.all_append, h, h']; rfl
theorem len_app (a b : Str) : (a ++ b : Str).length = a.length + b.length := by
  show (a.cps ++ b.cps).size = _
  rw [Array.size_append]; rfl
theorem o_add : OpR X (binaryOp .Add) (r2 X.K (binD .add)) := by
  intro pins s σ H v u v' u' Q I rv ru ⟨m, S, x, y, r, hx, hy, c⟩
  cases hx with
  | int i =>
    cases hy with
    | int j => exact op_add pins s σ H _ _ v' u' Q I rv ru ⟨i, j, rfl, rfl, c.done r (.int _)⟩
    | bl k => exact op_add_ib pins s σ H _ _ v' u' Q I rv ru ⟨i, k, rfl, rfl, by
        cases k <;> exact c.done r (.int _)⟩
    | _ => exact False.elim c
  | str a ha =>
    cases hy with
    | str b hb =>
      have c : Cont X.K (DV X.K) (if a.length + b.length ≤ sizeMax then .ok (.str (a ++ b)) S else .bad) m H Q := c
      split at c
      · rename_i hz
        exact op_add_str pins s σ H _ _ v' u' Q I rv ru ⟨a, b, rfl, rfl, by rw [← max_line]; exact hz, c.done r (.str _ ⟨by rw [len_app]; exact hz, strOk_app ha.2 hb.2⟩)⟩
      · exact False.elim c
    | _ => exact False.elim c
  | tup ha da =>
    rename_i p xs ds
    cases hy with
    | tup hb db =>
      rename_i q ys es
      have c : Cont X.K (DV X.K) (if ds.length + es.length ≤ sizeMax then .ok (.tup (ds ++ es)) S else .bad) m H Q := c
      split at c
      · rename_i hz
        have hz' : xs.length + ys.length ≤ sizeLine := by rw [da.length, db.length, ← max_line]; exact hz
        refine op_catA pins s σ H _ _ v' u' Q I rv ru ⟨p, q, xs, ys, rfl, rfl, .inl (.inl ha), .inl (.inl hb), hz', fun e => ?_, fun _ e => ?_, fun _ _ => ?_⟩
        · subst e
          cases da
          exact c.done r (.tup hb db)
        · subst e
          cases db
          exact c.done r (.tup ha (by rw [List.append_nil]; exact da))
        · exact newTup r (da.append db) (by rw [List.length_append]; exact hz') c
      · exact False.elim c
    | _ => exact False.elim c
  | ref ha =>
    rename_i p n
    cases hy with
    | ref hb =>
      rename_i q k
      have c : Cont X.K (DV X.K) (catL n k S) m H Q := c
      unfold catL at c
      cases e1 : S[n]? with
      | none => rw [e1] at c; exact False.elim c
      | some o1 =>
        cases o1 with
        | dic _ => rw [e1] at c; exact False.elim c
        | lst ds =>
          cases e2 : S[k]? with
          | none => rw [e1, e2] at c; exact False.elim c
          | some o2 =>
            cases o2 with
            | dic _ => rw [e1, e2] at c; exact False.elim c
            | lst es =>
              rw [e1, e2] at c
              dsimp only at c
              split at c
              · rename_i hz
                obtain ⟨xs, h1, d1, z1⟩ := lstOf r ha e1
                obtain ⟨ys, h2, d2, z2⟩ := lstOf r hb e2
                have hz' : xs.length + ys.length ≤ sizeLine := by rw [d1.length, d2.length, ← max_line]; exact hz
                exact op_cat pins s σ H _ _ v' u' Q I rv ru ⟨p, q, xs, ys, rfl, rfl, h1, h2, hz', newLst r (d1.append d2) (by rw [List.length_append]; exact hz') c⟩
              · exact False.elim c
    | int _ => exact False.elim c
    | _ => exact False.elim c
  | _ => cases hy <;> exact False.elim c

theorem o_int {op : Bop} {o : Operator} {C : Int → Int → Prop} {g : Int → Int → Int} (hf : ∀ i j S, (binD op (.int i) (.int j) S = .bad) ∨ (C i j ∧ binD op (.int i) (.int j) S = .ok (.int (g i j)) S)) (hn : ∀ x y S, (∀ i j, ¬ (x = .int i ∧ y = .int j)) → binD op x y S = .bad)
    (ho : OpR X (binaryOp o) (rI C fun i j => .int (g i j))) : OpR X (binaryOp o) (r2 X.K (binD op)) := by
  intro pins s σ H v u v' u' Q I rv ru ⟨m, S, x, y, r, hx, hy, c⟩
  by_cases hi : ∃ i j, x = .int i ∧ y = .int j
  · obtain ⟨i, j, rfl, rfl⟩ := hi
    cases hx
    cases hy
    rcases hf i j S with e | ⟨hc, e⟩
    · rw [e] at c; exact False.elim c
    · rw [e] at c
      exact ho pins s σ H _ _ v' u' Q I rv ru ⟨i, j, rfl, rfl, hc, c.done r (.int _)⟩
  · rw [hn x y S fun i j h => hi ⟨i, j, h⟩] at c
    exact False.elim c
theorem noInt {op : Bop} (h1 : op ≠ .add) (h2 : op ≠ .mul) (h3 : op ≠ .sub) : ∀ x y S, (∀ i j, ¬ (x = D.int i ∧ y = D.int j)) → binD op x y S = .bad := by
  intro x y S h
  cases x <;> cases y <;> (try exact absurd ⟨rfl, rfl⟩ (h _ _)) <;> cases op <;> first | rfl | exact absurd rfl h1 | exact absurd rfl h2 | exact absurd rfl h3
theorem iff_if {α : Type} {p : Prop} [Decidable p] {a b : α} {C : Prop} (h : p → C) : (if p then a else b) = b ∨ (C ∧ (if p then a else b) = a) := by
  by_cases q : p
  · exact .inr ⟨h q, if_pos q⟩
  · exact .inl (if_neg q)
theorem op_sub_ib : OpR X (binaryOp .Sub) (fun x y H Q => ∃ i k, x = .int i ∧ y = .bl k ∧ Q (.int (i - b2i k)) H) := by
  intro pins s σ H x y v u Q I rx ry h
  obtain ⟨i, k, rfl, rfl, q⟩ := h
  obtain ⟨t, rfl⟩ := rx
  cases ry
  exact PySem.IntBool.sub_int_bool ⟨.int (i - b2i k), H, I.tok _, ⟨_, rfl⟩, q⟩
theorem o_sub : OpR X (binaryOp .Sub) (r2 X.K (binD .sub)) := by
  intro pins s σ H v u v' u' Q I rv ru ⟨m, S, x, y, r, hx, hy, c⟩
  cases hx with
  | int i =>
    cases hy with
    | int j => exact op_sub pins s σ H _ _ v' u' Q I rv ru ⟨i, j, rfl, rfl, c.done r (.int _)⟩
    | bl k => exact op_sub_ib pins s σ H _ _ v' u' Q I rv ru ⟨i, k, rfl, rfl, by
        cases k <;> exact c.done r (.int _)⟩
    | _ => exact False.elim c
  | _ => cases hy <;> exact False.elim c
theorem o_fdiv : OpR X (binaryOp .FloorDiv) (r2 X.K (binD .fdiv)) := o_int (fun i j S => iff_if id) (noInt (by decide) (by decide) (by decide)) op_fdivN
theorem o_mod : OpR X (binaryOp .Mod) (r2 X.K (binD .mod)) := o_int (fun i j S => iff_if id) (noInt (by decide) (by decide) (by decide)) op_modN
theorem o_pow : OpR X (binaryOp .Pow) (r2 X.K (binD .pow)) := o_int (fun i j S => iff_if id) (noInt (by decide) (by decide) (by decide)) op_pow
theorem o_shl : OpR X (binaryOp .LShift) (r2 X.K (binD .shl)) := o_int (fun i j S => iff_if id) (noInt (by decide) (by decide) (by decide)) op_shl
theorem o_shr : OpR X (binaryOp .RShift) (r2 X.K (binD .shr)) := o_int (fun i j S => iff_if id) (noInt (by decide) (by decide) (by decide)) op_shr
theorem o_bor : OpR X (binaryOp .BitOr) (r2 X.K (binD .bor)) := o_int (C := fun i j => 0 ≤ i ∧ 0 ≤ j) (fun i j S => iff_if id) (noInt (by decide) (by decide) (by decide)) fun pins s σ H v u v' u' Q I rv ru ⟨i, j, h1, h2, hz, q⟩ =>
  op_or pins s σ H _ _ v' u' Q I rv ru ⟨i, j, h1, h2, by show Q (.int (Builtin.bitOr i j)) H; rw [Bits.bitOr_pp hz.1 hz.2]; exact q⟩
theorem o_band : OpR X (binaryOp .BitAnd) (r2 X.K (binD .band)) := o_int (C := fun i j => 0 ≤ i ∧ 0 ≤ j) (fun i j S => iff_if id) (noInt (by decide) (by decide) (by decide)) fun pins s σ H v u v' u' Q I rv ru ⟨i, j, h1, h2, hz, q⟩ =>
  op_and pins s σ H _ _ v' u' Q I rv ru ⟨i, j, h1, h2, by show Q (.int (Builtin.bitAnd i j)) H; rw [show Builtin.bitAnd i j = ((i.toNat &&& j.toNat : Nat) : Int) by simp [Builtin.bitAnd, hz.1, hz.2]]; exact q⟩
theorem small_cmul {i : Int} (h : small i) : -(2 ^ 64) < i ∧ i < 2 ^ 64 := by
  unfold small at h
  omega
theorem o_mul : OpR X (binaryOp .Mult) (r2 X.K (binD .mul)) := by
  intro pins s σ H v u v' u' Q I rv ru ⟨m, S, x, y, r, hx, hy, c⟩
  cases hx with
  | int i =>
    cases hy with
    | int j =>
      have c : Cont X.K (DV X.K) (if small i ∨ small j then .ok (.int (i * j)) S else .bad) m H Q := c
      split at c
      · rename_i hz
        exact op_mul pins s σ H _ _ v' u' Q I rv ru ⟨i, j, rfl, rfl, hz.imp small_cmul small_cmul, c.done r (.int _)⟩
      · exact False.elim c
    | _ => exact False.elim c
  | ref ha =>
    rename_i p n
    cases hy with
    | int k =>
      have c : Cont X.K (DV X.K) (repL n k S) m H Q := c
      unfold repL at c
      cases e1 : S[n]? with
      | none => rw [e1] at c; exact False.elim c
      | some o1 =>
        cases o1 with
        | dic _ => rw [e1] at c; exact False.elim c
        | lst ds =>
          rw [e1] at c
          dsimp only at c
          split at c
          · rename_i hz
            obtain ⟨xs, h1, d1, z1⟩ := lstOf r ha e1
            have hz' : xs.length * k.toNat ≤ sizeLine := by rw [d1.length, ← max_line]; exact hz.2
            exact op_rep pins s σ H _ _ v' u' Q I rv ru ⟨p, k, xs, rfl, rfl, h1, by omega, by omega, hz', newLst r (d1.rep k.toNat) (by rw [len_rep]; exact hz') c⟩
          · exact False.elim c
    | ref _ => exact False.elim c
    | _ => exact False.elim c
  | tup ha da =>
    rename_i p xs ds
    cases hy with
    | int k =>
      have c : Cont X.K (DV X.K) (if 0 < ds.length ∧ ds.length ≤ 1000 ∧ 2 ≤ k ∧ k ≤ 1000 then .ok (.tup (List.replicate k.toNat ds).flatten) S else .bad) m H Q := c
      split at c
      · rename_i hz
        have hl := da.length
        have hz' : xs.length * k.toNat ≤ sizeLine := by
          have h1 : xs.length * k.toNat ≤ 1000 * 1000 := Nat.mul_le_mul (by omega) (by omega)
          rw [sizeLine_eq]
          omega
        exact op_repT pins s σ H _ _ v' u' Q I rv ru ⟨p, k, xs, rfl, rfl, .inl (.inl ha), by rintro rfl; rw [List.length_nil] at hl; omega, by omega, by omega, by omega, newTup r (da.rep k.toNat) (by rw [len_rep]; exact hz') c⟩
      · exact False.elim c
    | _ => exact False.elim c
  | _ => cases hy <;> exact False.elim c
end
end PV

namespace PV
open PySem PySem.Spec PyProof.Rows L2
/-! ### dicts: keys ints, or tuples of ints -/
section
variable {K : PySem.W.Frag} {m : List Addr} {H : Hp} {S : Sto}
theorem isK_get {v : V} {x : D} (h : DV K m H v x) (e : x.isK = true) : ∃ i : Int, v = .int i ∧ x = .int i := by
  cases h with
  | int i => exact ⟨i, rfl, rfl⟩
  | _ => cases e
theorem isKey_get {v : V} {x : D} (h : DV K m H v x) (e : x.isKey = true) : ∃ k : Key, v = kV k ∧ x = keyD k := by
  cases h with
  | int i => exact ⟨.inl i, rfl, rfl⟩
  | str z _ => exact ⟨.inr z, rfl, rfl⟩
  | _ => cases e
theorem key_eqv (a b : Key) : (keyD a).eqv (keyD b) = decide (a = b) := by
  cases a with
  | inl i =>
    cases b with
    | inl j =>
      show (D.int i).eqv (.int j) = _
      rw [D.eqv]
      by_cases q : i = j
      · subst q; simp
      · simp [q]
    | inr y => rw [decide_eq_false (by simp)]; rfl
  | inr x =>
    cases b with
    | inl j => rw [decide_eq_false (by simp)]; rfl
    | inr y =>
      show (D.str x).eqv (.str y) = _
      rw [D.eqv]
      by_cases q : x = y
      · subst q; simp
      · simp [q]
theorem isKs_get : ∀ {vs : List V} {xs : List D}, DVs K m H vs xs → xs.all D.isK = true → ∃ ns : List Int, vs = ns.map V.int ∧ xs = ns.map D.int
  | _, _, .nil, _ => ⟨[], rfl, rfl⟩
  | _, _, .cons h t, e => by
    rw [List.all_cons, Bool.and_eq_true] at e
    obtain ⟨i, rfl, rfl⟩ := isK_get h e.1
    obtain ⟨ns, rfl, rfl⟩ := isKs_get t e.2
    exact ⟨i :: ns, rfl, rfl⟩
theorem isT_get {v : V} {x : D} (h : DV K m H v x) (e : x.isT = true) : ∃ (b : Addr) (ns : List Int), v = .ref b ∧ H b = some (.tup (ns.map V.int)) ∧ x = .tup (ns.map D.int) := by
  cases h with
  | tup h t =>
    obtain ⟨ns, rfl, rfl⟩ := isKs_get t e
    exact ⟨_, ns, rfl, h, rfl⟩
  | _ => cases e
theorem kV_ints (ns : List Int) : (ns.map (Sum.inl : Int → Key)).map kV = ns.map V.int := by rw [List.map_map]; rfl
theorem keyT_ints (ns : List Int) : keyT (ns.map Sum.inl) = .tup (ns.map D.int) := by unfold keyT; rw [List.map_map]; rfl
theorem eqvs_ints : ∀ as bs : List Int, D.eqvs (as.map D.int) (bs.map D.int) = decide (as = bs)
  | [], [] => rfl
  | [], _ :: _ => by simp [D.eqvs]
  | _ :: _, [] => by simp [D.eqvs]
  | a :: as, b :: bs => by
    rw [List.map_cons, List.map_cons, D.eqvs, eqvs_ints as bs]
    have : (D.int a).eqv (D.int b) = (a == b) := by rw [D.eqv]
    rw [this]
    by_cases h : a = b
    · subst h; simp
    · simp [h]
theorem inl_map {as bs : List Int} : (as.map (Sum.inl : Int → Key)) = bs.map Sum.inl ↔ as = bs :=
  ⟨fun h => by
    induction as generalizing bs with
    | nil => cases bs with
      | nil => rfl
      | cons _ _ => cases h
    | cons a as ih => cases bs with
      | nil => cases h
      | cons b bs =>
        injection h with h1 h2
        injection h1 with h1
        rw [h1, ih h2], fun h => by rw [h]⟩
/-- the int keys -/
theorem keys_K : ∀ {ks : List (Key × V)} {kvs : List (D × D)}, DKs K m H keyD ks kvs → (kvs.all fun p => p.1.isK) = true → ∀ p ∈ ks, ∃ i : Int, p.1 = .inl i
  | _, _, .nil, _, p, hp => by cases hp
  | _, _, .cons (a := a) (b := b) h t, e, p, hp => by
    rw [List.all_cons, Bool.and_eq_true] at e
    rcases List.mem_cons.mp hp with rfl | hp
    · have e1 := e.1
      rw [h.1] at e1
      cases hk : p.1 with
      | inl i => exact ⟨i, rfl⟩
      | inr x => rw [hk] at e1; cases e1
    · exact keys_K t e.2 p hp
theorem keys_T : ∀ {ks : List (List Key × V)} {kvs : List (D × D)}, DKs K m H keyT ks kvs → (kvs.all fun p => p.1.isT) = true → ∀ p ∈ ks, ∃ ns : List Int, p.1 = ns.map .inl
  | _, _, .nil, _, p, hp => by cases hp
  | _, _, .cons (a := a) (b := b) h t, e, p, hp => by
    rw [List.all_cons, Bool.and_eq_true] at e
    rcases List.mem_cons.mp hp with rfl | hp
    · have e1 := e.1
      rw [h.1] at e1
      have e2 : (p.1.map keyD).all D.isK = true := e1
      have key : ∀ l : List Key, (l.map keyD).all D.isK = true → ∃ ns : List Int, l = ns.map .inl := fun l => by
        induction l with
        | nil => exact fun _ => ⟨[], rfl⟩
        | cons a l ih =>
          intro q
          rw [List.map_cons, List.all_cons, Bool.and_eq_true] at q
          obtain ⟨ns, rfl⟩ := ih q.2
          cases a with
          | inl i => exact ⟨i :: ns, rfl⟩
          | inr _ => cases q.1
      exact key _ e2
    · exact keys_T t e.2 p hp
/-- what a look finds -/
def LookR (K : PySem.W.Frag) (m : List Addr) (H : Hp) : Option V → Option D → Prop
  | some v, some d => DV K m H v d
  | none, none => True
  | _, _ => False
theorem look_eq {κ : Type} [DecidableEq κ] {f : κ → D} {k : κ} : ∀ {ks : List (κ × V)} {kvs : List (D × D)}, DKs K m H f ks kvs → (∀ p ∈ ks, (f p.1).eqv (f k) = decide (p.1 = k)) → LookR K m H (valV ks k) (lookD kvs (f k))
  | _, _, .nil, _ => True.intro
  | _, _, .cons (a := a) (b := b) h t, e => by
    obtain ⟨b1, b2⟩ := b
    obtain ⟨h1, h2⟩ := h
    dsimp only at h1 h2
    subst h1
    rw [lookD, e a List.mem_cons_self]
    by_cases q : a.1 = k
    · rw [valV_pos q, if_pos (decide_eq_true q)]
      exact h2
    · rw [valV_neg q, if_neg (by simpa using q)]
      exact look_eq t fun p hp => e p (List.mem_cons_of_mem _ hp)
theorem any_eq {κ : Type} [DecidableEq κ] {f : κ → D} {k : κ} : ∀ {ks : List (κ × V)} {kvs : List (D × D)}, DKs K m H f ks kvs → (∀ p ∈ ks, (f p.1).eqv (f k) = decide (p.1 = k)) → (kvs.any fun p => p.1.eqv (f k)) = ks.any fun p => decide (p.1 = k)
  | _, _, .nil, _ => rfl
  | _, _, .cons (a := a) (b := b) h t, e => by
    rw [List.any_cons, List.any_cons, any_eq t fun p hp => e p (List.mem_cons_of_mem _ hp), h.1, e a List.mem_cons_self]
theorem map_eq {κ : Type} [DecidableEq κ] {f : κ → D} {k : κ} {v : V} {d : D} (hv : DV K m H v d) : ∀ {ks : List (κ × V)} {kvs : List (D × D)}, DKs K m H f ks kvs → (∀ p ∈ ks, (f p.1).eqv (f k) = decide (p.1 = k)) →
    DKs K m H f (ks.map fun kv => if kv.1 = k then (kv.1, v) else kv) (kvs.map fun p => if p.1.eqv (f k) = true then (p.1, d) else p)
  | _, _, .nil, _ => .nil
  | _, _, .cons (a := a) (b := b) h t, e => by
    rw [List.map_cons, List.map_cons]
    refine .cons ?_ (map_eq hv t fun p hp => e p (List.mem_cons_of_mem _ hp))
    rw [h.1, e a List.mem_cons_self]
    by_cases q : a.1 = k
    · rw [if_pos q, if_pos (decide_eq_true q)]
      exact ⟨rfl, hv⟩
    · rw [if_neg q, if_neg (by simpa using q)]
      exact h
theorem put_eq {κ : Type} [DecidableEq κ] {f : κ → D} {k : κ} {v : V} {d : D} {ks : List (κ × V)} {kvs : List (D × D)} (hv : DV K m H v d) (h : DKs K m H f ks kvs) (e : ∀ p ∈ ks, (f p.1).eqv (f k) = decide (p.1 = k)) :
    DKs K m H f (putK ks k v) (putD kvs (f k) d) := by
  unfold putK putD
  rw [any_eq h e]
  split
  · exact map_eq hv h e
  · exact Paired.snoc h ⟨rfl, hv⟩
theorem DKs.len {κ : Type} {f : κ → D} {ks : List (κ × V)} {kvs : List (D × D)} (h : DKs K m H f ks kvs) : ks.length = kvs.length := Paired.length h
end
section
variable {X : Cx} {pins : List (Addr × Obj)} {σ : L2.St} {H : Hp} {s : Shared} {a : Addr} {m : List Addr} {S : Sto}
/-- the empty dict is of either kind -/
theorem toT (I : Inv X pins σ H s) (e : H a = some (.dK [])) : Inv X pins σ (upd H a (.dT [])) s := by
  obtain ⟨z, hd, vs, rel, o, es, ep, h1, h2, h3, _, h5, _⟩ := dk_of I.hok e
  cases rel
  exact d_write (h' := s.heap) (t' := s.toks) I (by rw [e]; exact True.intro) ⟨rfl, fun _ _ => rfl⟩ ⟨o, h1⟩ ⟨Nat.zero_le _, hd, [], .nil, o, es, ep, h1, h2, h3, by
    revert h5
    generalize es.toList = l
    intro h5
    cases l with
    | nil => rfl
    | cons _ _ => exact False.elim (by cases h5), List.nodup_nil⟩
theorem toK (I : Inv X pins σ H s) (e : H a = some (.dT [])) : Inv X pins σ (upd H a (.dK [])) s := by
  obtain ⟨z, hd, xs, rel, o, es, ep, h1, h2, h3, h4, _, h5⟩ := dt_of I.hok e
  cases rel
  have h4 : es.toList = [] := h4
  have h4' : es = #[] := by simpa using h4
  subst h4'
  exact d_write (h' := s.heap) (t' := s.toks) I (by rw [e]; exact True.intro) ⟨rfl, fun _ _ => rfl⟩ ⟨o, h1⟩ ⟨Nat.zero_le _, hd, [], .nil, o, #[], ep, h1, h2, h3, (fun j hj => by simp at hj), .nil, List.nodup_nil⟩
/-- the dict and the key, of one kind -/
theorem dic_ready {n : Nat} {kvs : List (D × D)} {v : V} {x : D} (I : Inv X pins σ H s) (r : Rl X.K m S H) (hm : m[n]? = some a) (e : S[n]? = some (.dic kvs)) (hx : DV X.K m H v x) (hok : dicOk kvs x = true) :
    ∃ H2, Inv X pins σ H2 s ∧ Gro m m H H2 ∧ Rl X.K m S H2 ∧
      ((∃ ks k, H2 a = some (.dK ks) ∧ v = kV k ∧ x = keyD k ∧ DKs X.K m H2 keyD ks kvs ∧ ∀ p ∈ ks, (keyD p.1).eqv (keyD k) = decide (p.1 = k)) ∨
        ∃ ks k b, H2 a = some (.dT ks) ∧ v = .ref b ∧ H2 b = some (.tup (k.map kV)) ∧ x = keyT k ∧ DKs X.K m H2 keyT ks kvs ∧ ∀ p ∈ ks, (keyT p.1).eqv (keyT k) = decide (p.1 = k)) := by
  have o := r.ob n a _ hm e
  have hma : a ∈ m := List.mem_of_getElem? hm
  have hn : n < S.length := (List.getElem?_eq_some_iff.mp e).1
  have hset : S.set n (.dic kvs) = S := by
    obtain ⟨h1, h2⟩ := List.getElem?_eq_some_iff.mp e
    rw [← h2]; exact List.set_getElem_self _
  have kK : ∀ {H2 : Hp} {ks : List (Key × V)} {k : Key}, DKs X.K m H2 keyD ks kvs → ∀ p ∈ ks, (keyD p.1).eqv (keyD k) = decide (p.1 = k) := fun {H2 ks k} _ p _ => key_eqv p.1 k
  have kT : ∀ {H2 : Hp} {ks : List (List Key × V)} {ns : List Int}, DKs X.K m H2 keyT ks kvs → (kvs.all fun p => p.1.isT) = true → ∀ p ∈ ks, (keyT p.1).eqv (keyT (ns.map .inl)) = decide (p.1 = ns.map .inl) := fun {H2 ks ns} h h' p hp => by
    obtain ⟨ms, hj⟩ := keys_T h h' p hp
    rw [hj, keyT_ints, keyT_ints]
    show D.eqvs _ _ = _
    rw [eqvs_ints]
    by_cases q : ms = ns
    · subst q; simp
    · rw [decide_eq_false q, decide_eq_false (fun z => q (inl_map.mp z))]
  unfold dicOk at hok
  rw [Bool.or_eq_true, Bool.and_eq_true, Bool.and_eq_true] at hok
  rcases hok with ⟨h1, h2⟩ | ⟨h1, h2⟩
  · obtain ⟨k, rfl, rfl⟩ := isKey_get hx h1
    rcases o with ⟨ks, e1, d⟩ | ⟨ks, e1, d⟩
    · exact ⟨H, I, Gro.refl _ _, r, .inl ⟨ks, k, e1, rfl, rfl, d, kK d⟩⟩
    · have hnil : kvs = [] := by
        cases d with
        | nil => rfl
        | cons h t =>
          rw [List.all_cons, Bool.and_eq_true, h.1] at h2
          cases h2.1
      subst hnil
      cases d
      refine ⟨_, toK I e1, Gro.put r _ hma, by have := r.putO (o := .dK []) (O' := .dic []) hm trivial (.inl ⟨[], upd_same, .nil⟩); rwa [hset] at this, .inl ⟨[], k, upd_same, rfl, rfl, .nil, fun p hp => by cases hp⟩⟩
  · obtain ⟨b, ns, rfl, hb, rfl⟩ := isT_get hx h1
    rcases o with ⟨ks, e1, d⟩ | ⟨ks, e1, d⟩
    · have hnil : kvs = [] := by
        cases d with
        | nil => rfl
        | @cons p q _ _ h t =>
          rw [List.all_cons, Bool.and_eq_true, h.1] at h2
          have := h2.1
          cases hk : p.1 <;> rw [hk] at this <;> cases this
      subst hnil
      cases d
      have g := Gro.put r (.dT []) hma
      refine ⟨_, toT I e1, g, by have := r.putO (o := .dT []) (O' := .dic []) hm trivial (.inr ⟨[], upd_same, .nil⟩); rwa [hset] at this, .inr ⟨[], ns.map .inl, b, upd_same, rfl, ?_, (keyT_ints ns).symm, .nil, fun p hp => by cases hp⟩⟩
      rw [kV_ints]
      exact r.tupT g hb
    · exact ⟨H, I, Gro.refl _ _, r, .inr ⟨ks, ns.map .inl, b, e1, rfl, by rw [kV_ints]; exact hb, (keyT_ints ns).symm, d, kT d h2⟩⟩
/-- a look -/
theorem dic_get {n : Nat} {kvs : List (D × D)} {v : V} {x : D} (I : Inv X pins σ H s) (r : Rl X.K m S H) (hm : m[n]? = some a) (e : S[n]? = some (.dic kvs)) (hx : DV X.K m H v x) (hok : dicOk kvs x = true) :
    ∃ H2 o, Inv X pins σ H2 s ∧ Gro m m H H2 ∧ Rl X.K m S H2 ∧ DGet H2 a v o ∧ LookR X.K m H2 o (lookD kvs x) := by
  obtain ⟨H2, I2, g, r2, ⟨ks, k, h1, rfl, rfl, d, hk⟩ | ⟨ks, k, b, h1, rfl, h2, rfl, d, hk⟩⟩ := dic_ready I r hm e hx hok
  · exact ⟨H2, _, I2, g, r2, DGet.k h1, look_eq d hk⟩
  · exact ⟨H2, _, I2, g, r2, DGet.t h1 h2, look_eq d hk⟩
/-- a change -/
theorem dic_put {n : Nat} {kvs : List (D × D)} {v w : V} {x y : D} (I : Inv X pins σ H s) (r : Rl X.K m S H) (hm : m[n]? = some a) (e : S[n]? = some (.dic kvs)) (hx : DV X.K m H v x) (hy : DV X.K m H w y) (hok : dicOk kvs x = true) (hl : kvs.length < sizeLine) :
    ∃ H2 H3, Inv X pins σ H2 s ∧ DPut H2 a v w H3 ∧ Gro m m H H3 ∧ Rl X.K m (S.set n (.dic (putD kvs x y))) H3 := by
  have hma : a ∈ m := List.mem_of_getElem? hm
  obtain ⟨H2, I2, g, r2, ⟨ks, k, h1, rfl, rfl, d, hk⟩ | ⟨ks, k, b, h1, rfl, h2, rfl, d, hk⟩⟩ := dic_ready I r hm e hx hok
  · have g2 := Gro.put r2 (.dK (putK ks k w)) hma
    refine ⟨H2, _, I2, DPut.k h1 (by rw [d.len]; exact hl), g.trans g2, r2.putO hm trivial (.inl ⟨_, upd_same, put_eq ((hy.mono r g).mono r2 g2) (Paired.mapP d fun _ _ z => ⟨z.1, z.2.mono r2 g2⟩) hk⟩)⟩
  · have g2 := Gro.put r2 (.dT (putK ks k w)) hma
    refine ⟨H2, _, I2, DPut.t h1 h2 (by rw [d.len]; exact hl), g.trans g2, r2.putO hm trivial (.inr ⟨_, upd_same, put_eq ((hy.mono r g).mono r2 g2) (Paired.mapP d fun _ _ z => ⟨z.1, z.2.mono r2 g2⟩) hk⟩)⟩
end
end PV

namespace PV
open PySem PySem.Spec PyProof.Rows L2
/-! ### data -/
mutual
def pd : D → PyData
  | .non => .none | .bl b => .bool b | .int i => .int i | .str s => .str s
  | .tup xs => .tuple (pds xs) | .fls xs => .list (pds xs) | .ref _ => .none | .ctu _ => .none | .cdc _ => .none
def pds : List D → List PyData
  | [] => []
  | x :: xs => pd x :: pds xs
end
theorem pds_map (xs : List D) : pds xs = xs.map pd := by
  induction xs with
  | nil => rfl
  | cons x xs ih => rw [pds, ih, List.map_cons]
theorem purs_cons {x : D} {xs : List D} (h : D.purs (x :: xs) = true) : x.pur = true ∧ D.purs xs = true := by
  simpa [D.purs] using h
theorem purs_iff (xs : List D) : D.purs xs = true ↔ ∀ x ∈ xs, x.pur = true := by
  induction xs with
  | nil => simp [D.purs]
  | cons x xs ih => simp [D.purs, ih]
mutual
theorem eqv_pd : ∀ x y : D, x.pur = true → y.pur = true → PyData.eqv (pd x) (pd y) = x.eqv y
  | .non, y, _, hy => by cases y <;> first | rfl | exact absurd hy (by simp [D.pur])
  | .bl _, y, _, hy => by cases y <;> first | rfl | exact absurd hy (by simp [D.pur])
  | .int _, y, _, hy => by cases y <;> first | rfl | exact absurd hy (by simp [D.pur])
  | .str _, y, _, hy => by cases y <;> first | rfl | exact absurd hy (by simp [D.pur])
  | .tup xs, y, hx, hy => by
    cases y with
    | tup ys => exact eqvs_pd xs ys (by simpa [D.pur] using hx) (by simpa [D.pur] using hy)
    | fls _ => exact absurd hy (by simp [D.pur])
    | ref _ => exact absurd hy (by simp [D.pur])
    | ctu _ => exact absurd hy (by simp [D.pur])
    | cdc _ => exact absurd hy (by simp [D.pur])
    | _ => rfl
  | .fls _, _, hx, _ => absurd hx (by simp [D.pur])
  | .ref _, _, hx, _ => absurd hx (by simp [D.pur])
  | .ctu _, _, hx, _ => absurd hx (by simp [D.pur])
  | .cdc _, _, hx, _ => absurd hx (by simp [D.pur])
theorem eqvs_pd : ∀ xs ys : List D, D.purs xs = true → D.purs ys = true → PyData.eqvAll (pds xs) (pds ys) = D.eqvs xs ys
  | [], [], _, _ => rfl
  | [], _ :: _, _, _ => rfl
  | _ :: _, [], _, _ => rfl
  | x :: xs, y :: ys, hx, hy => by
    rw [pds, pds, PyData.eqvAll, D.eqvs, eqv_pd x y (purs_cons hx).1 (purs_cons hy).1, eqvs_pd xs ys (purs_cons hx).2 (purs_cons hy).2]
end
mutual
theorem dep_pd : ∀ x : D, x.pur = true → (pd x).depth = x.dep
  | .non, _ => rfl | .bl _, _ => rfl | .int _, _ => rfl | .str _, _ => rfl
  | .tup xs, h => by rw [pd, D.dep, PyData.depth, deps_pd xs (by simpa [D.pur] using h)]
  | .fls _, h => absurd h (by simp [D.pur]) | .ref _, h => absurd h (by simp [D.pur]) | .ctu _, h => absurd h (by simp [D.pur]) | .cdc _, h => absurd h (by simp [D.pur])
theorem deps_pd : ∀ xs : List D, D.purs xs = true → PyData.depthAll (pds xs) = D.deps xs
  | [], _ => rfl
  | x :: xs, h => by rw [pds, PyData.depthAll, D.deps, dep_pd x (purs_cons h).1, deps_pd xs (purs_cons h).2]
end
mutual
theorem alk_pd : ∀ x y : D, x.pur = true → y.pur = true → PySem.W.alike (pd x) (pd y) = x.alk y
  | .non, y, _, hy => by cases y <;> first | rfl | exact absurd hy (by simp [D.pur])
  | .bl _, y, _, hy => by cases y <;> first | rfl | exact absurd hy (by simp [D.pur])
  | .int _, y, _, hy => by cases y <;> first | rfl | exact absurd hy (by simp [D.pur])
  | .str _, y, _, hy => by cases y <;> first | rfl | exact absurd hy (by simp [D.pur])
  | .tup xs, y, hx, hy => by
    cases y with
    | tup ys => exact alks_pd xs ys (by simpa [D.pur] using hx) (by simpa [D.pur] using hy)
    | fls _ => exact absurd hy (by simp [D.pur])
    | ref _ => exact absurd hy (by simp [D.pur])
    | ctu _ => exact absurd hy (by simp [D.pur])
    | cdc _ => exact absurd hy (by simp [D.pur])
    | _ => rfl
  | .fls _, _, hx, _ => absurd hx (by simp [D.pur])
  | .ref _, _, hx, _ => absurd hx (by simp [D.pur])
  | .ctu _, _, hx, _ => absurd hx (by simp [D.pur])
  | .cdc _, _, hx, _ => absurd hx (by simp [D.pur])
theorem alks_pd : ∀ xs ys : List D, D.purs xs = true → D.purs ys = true → PySem.W.alikeAll (pds xs) (pds ys) = D.alks xs ys
  | [], [], _, _ => rfl
  | [], _ :: _, _, _ => rfl
  | _ :: _, [], _, _ => rfl
  | x :: xs, y :: ys, hx, hy => by
    rw [pds, pds, PySem.W.alikeAll, D.alks, alk_pd x y (purs_cons hx).1 (purs_cons hy).1, alks_pd xs ys (purs_cons hx).2 (purs_cons hy).2]
end
mutual
theorem lt_pd : ∀ x y : D, x.pur = true → y.pur = true → x.alk y = true → PySem.W.dataLt (pd x) (pd y) = x.lt y
  | .non, y, _, hy, ha => by
    cases y with
    | non => exact lex_irrefl _
    | _ => exact absurd ha (by simp [D.alk])
  | .bl a, y, _, hy, ha => by
    cases y with
    | bl b => rw [pd, pd, PySem.W.dataLt_bool]; cases a <;> cases b <;> rfl
    | _ => exact absurd ha (by simp [D.alk])
  | .int a, y, _, hy, ha => by
    cases y with
    | int b => exact PySem.W.dataLt_int a b
    | _ => exact absurd ha (by simp [D.alk])
  | .str a, y, _, hy, ha => by
    cases y with
    | str b => exact PySem.W.dataLt_str a b
    | _ => exact absurd ha (by simp [D.alk])
  | .tup xs, y, hx, hy, ha => by
    cases y with
    | tup ys =>
      rw [pd, pd, PySem.W.dataLt_tuple]
      exact lts_pd xs ys (by simpa [D.pur] using hx) (by simpa [D.pur] using hy) (by simpa [D.alk] using ha)
    | _ => exact absurd ha (by simp [D.alk])
  | .fls _, _, hx, _, _ => absurd hx (by simp [D.pur])
  | .ref _, _, hx, _, _ => absurd hx (by simp [D.pur])
  | .ctu _, _, hx, _, _ => absurd hx (by simp [D.pur])
  | .cdc _, _, hx, _, _ => absurd hx (by simp [D.pur])
theorem lts_pd : ∀ xs ys : List D, D.purs xs = true → D.purs ys = true → D.alks xs ys = true → PyProof.Rows.lexLt PyProof.Rows.itemOrd (PySem.W.keyToksAll (pds xs)) (PySem.W.keyToksAll (pds ys)) = D.lts xs ys
  | [], [], _, _, _ => lex_irrefl _
  | [], y :: ys, _, _, _ => by
    rw [pds, pds, PySem.W.toks_all_cons]
    simp only [PySem.W.keyToksAll]
    rw [lex_diff (O := PyProof.Rows.itemOrd) (by simp)]
    rfl
  | x :: xs, [], _, _, _ => by
    rw [pds, pds, PySem.W.toks_all_cons]
    simp only [PySem.W.keyToksAll]
    rw [lex_diff (O := PyProof.Rows.itemOrd) (by simp)]
    rfl
  | x :: xs, y :: ys, hx, hy, ha => by
    have ha' : x.alk y = true ∧ D.alks xs ys = true := by simpa [D.alks] using ha
    rw [pds, pds, PySem.W.dataLt_cons (by rw [alk_pd x y (purs_cons hx).1 (purs_cons hy).1]; exact ha'.1), eqv_pd x y (purs_cons hx).1 (purs_cons hy).1, D.lts,
      lts_pd xs ys (purs_cons hx).2 (purs_cons hy).2 ha'.2, lt_pd x y (purs_cons hx).1 (purs_cons hy).1 ha'.1]
end

section
variable {K : PySem.W.Frag} {m : List Addr} {H : Hp} {S : Sto}
mutual
theorem pur_dp : ∀ {d : D} {v : V}, DV K m H v d → d.pur = true → Dp K H v (pd d) ∧ (pd d).canLay0 = true
  | _, _, .non, _ => ⟨.non, by simp [pd, PyData.canLay0]⟩
  | _, _, .bl b, _ => ⟨.bl b, by simp [pd, PyData.canLay0]⟩
  | _, _, .int i, _ => ⟨.int i, by simp [pd, PyData.canLay0]⟩
  | _, _, .str s h, _ => ⟨.str s, by simp [pd, PyData.canLay0, h.2]⟩
  | _, _, .tup h t, hp => by
    obtain ⟨h1, h2⟩ := purs_dp t (by simpa [D.pur] using hp)
    exact ⟨.tup (.inl (.inl h)) h1, by rw [pd, PyData.canLay0]; exact h2⟩
  | _, _, .fls _ _, hp => absurd hp (by simp [D.pur])
  | _, _, .ref _, hp => absurd hp (by simp [D.pur])
  | _, _, .ctu _ _, hp => absurd hp (by simp [D.pur])
  | _, _, .cdc _, hp => absurd hp (by simp [D.pur])
theorem purs_dp : ∀ {ds : List D} {vs : List V}, DVs K m H vs ds → D.purs ds = true → DpAll K H vs (pds ds) ∧ PyData.canLayAll0 (pds ds) = true
  | _, _, .nil, _ => ⟨.nil, rfl⟩
  | _, _, .cons h t, hp => by
    obtain ⟨h1, h2⟩ := pur_dp h (purs_cons hp).1
    obtain ⟨h3, h4⟩ := purs_dp t (purs_cons hp).2
    exact ⟨.cons h1 h3, by rw [pds, PyData.canLayAll0, h2, h4]; rfl⟩
end
theorem plain_dp {v : V} {x a : D} (r : Rl K m S H) (h : DV K m H v x) (e : plain x S = some a) : Dp K H v (pd a) ∧ (pd a).canLay0 = true ∧ (pd a).depth = depP a ∧ (a.pur = true ∨ ∃ xs, a = .fls xs ∧ D.purs xs = true) := by
  have key : ∀ d : D, d.pur = true → DV K m H v d → Dp K H v (pd d) ∧ (pd d).canLay0 = true ∧ (pd d).depth = depP d ∧ (d.pur = true ∨ ∃ xs, d = .fls xs ∧ D.purs xs = true) := fun d hp hd => by
    obtain ⟨h1, h2⟩ := pur_dp hd hp
    refine ⟨h1, h2, ?_, .inl hp⟩
    rw [dep_pd d hp]
    cases d <;> first | rfl | exact absurd hp (by simp [D.pur])
  have lst : ∀ {p : Addr} {vs : List V} {ds : List D}, v = .ref p → SqL K H p vs → DVs K m H vs ds → D.purs ds = true → Dp K H v (pd (.fls ds)) ∧ (pd (.fls ds)).canLay0 = true ∧ (pd (.fls ds)).depth = depP (.fls ds) ∧ ((D.fls ds).pur = true ∨ ∃ xs, D.fls ds = .fls xs ∧ D.purs xs = true) := fun {p vs ds} hv hs hd hp => by
    subst hv
    obtain ⟨h1, h2⟩ := purs_dp hd hp
    exact ⟨.lst hs h1, by rw [pd, PyData.canLay0]; exact h2, by rw [pd, PyData.depth, deps_pd ds hp]; rfl, .inr ⟨ds, rfl, hp⟩⟩
  cases h with
  | fls hf hd =>
    rename_i p vs ds
    simp only [plain] at e
    split at e
    · rename_i hp
      cases e
      exact lst rfl hf.sq hd hp
    · cases e
  | ref hm =>
    rename_i p n
    simp only [plain] at e
    split at e
    · rename_i ds e1
      split at e
      · rename_i hp
        cases e
        obtain ⟨vs, h1, h2, _⟩ := lstOf r hm e1
        exact lst rfl (.inl (.inl h1)) h2 hp
      · cases e
    · cases e
  | non => cases e; exact key _ rfl .non
  | bl b => cases e; exact key _ rfl (.bl b)
  | int i => cases e; exact key _ rfl (.int i)
  | str s hs => cases e; exact key _ rfl (.str s hs)
  | tup hs hd =>
    simp only [plain] at e
    split at e
    · rename_i hp
      cases e
      exact key _ hp (.tup hs hd)
    · cases e
  | cdc h => simp [plain, D.pur] at e
  | ctu hs hd =>
    rename_i p vs ds
    simp only [plain] at e
    split at e
    · rename_i hp
      cases e
      obtain ⟨h1, h2⟩ := purs_dp hd hp
      have hp' : (D.tup ds).pur = true := by simpa [D.pur] using hp
      exact ⟨.tup (.inr hs) h1, by rw [pd, PyData.canLay0]; exact h2, by rw [dep_pd _ hp']; rfl, .inl hp'⟩
    · cases e
theorem eqP_pd {a b : D} (ha : a.pur = true ∨ ∃ xs, a = .fls xs ∧ D.purs xs = true) (hb : b.pur = true ∨ ∃ xs, b = .fls xs ∧ D.purs xs = true) : PyData.eqv (pd a) (pd b) = eqP a b := by
  rcases ha with ha | ⟨xs, rfl, ha⟩
  · rcases hb with hb | ⟨ys, rfl, hb⟩
    · rw [eqv_pd a b ha hb]
      cases a <;> cases b <;> first | rfl | exact absurd ha (by simp [D.pur]) | exact absurd hb (by simp [D.pur])
    · cases a <;> first | rfl | exact absurd ha (by simp [D.pur])
  · rcases hb with hb | ⟨ys, rfl, hb⟩
    · cases b <;> first | rfl | exact absurd hb (by simp [D.pur])
    · exact eqvs_pd xs ys ha hb

variable {X : Cx}
theorem eq_get {x y : D} {t : Bool} (e : eqD x y S = some t) : ∃ a b, plain x S = some a ∧ plain y S = some b ∧ depP a ≤ maxDep ∧ depP b ≤ maxDep ∧ t = eqP a b := by
  unfold eqD at e
  split at e
  · rename_i a b e1 e2
    split at e
    · rename_i hz
      cases e
      exact ⟨a, b, e1, e2, hz.1, hz.2, rfl⟩
    · cases e
  · cases e
theorem shaped_of {a : D} (h1 : (pd a).canLay0 = true) (h2 : (pd a).depth = depP a) (h3 : depP a ≤ maxDep) : SeqAt.shaped (pd a) = true := by
  unfold SeqAt.shaped
  rw [h1, h2, Bool.true_and, decide_eq_true_eq]
  have : maxDep = 40 := rfl
  omega
def cmpR (op : Cop) (x y : D) (S : Sto) : R D := (lft (cmpD op x y S) S).bind fun t S => .ok (.bl t) S
theorem cmp_get {op : Cop} {x y : D} {Q : VK} (c : Cont K (DV K) (cmpR op x y S) m H Q) (r : Rl K m S H) : ∃ t, cmpD op x y S = some t ∧ Q (.bl t) H := by
  unfold cmpR at c
  cases e : cmpD op x y S with
  | none => rw [e] at c; exact False.elim c
  | some t =>
    rw [e] at c
    exact ⟨t, rfl, Cont.done c r (.bl t)⟩
theorem o_eq (hu : X.A.units + 64 < cLine) : OpR X (compareOp .Eq) (r2 X.K (cmpR .eq)) := by
  intro pins s σ H v u v' u' Q I rv ru ⟨m, S, x, y, r, hx, hy, c⟩
  obtain ⟨t, e, q⟩ := cmp_get c r
  obtain ⟨a, b, e1, e2, z1, z2, rfl⟩ := eq_get e
  obtain ⟨p1, p2, p3, p4⟩ := plain_dp r hx e1
  obtain ⟨q1, q2, q3, q4⟩ := plain_dp r hy e2
  exact op_eqD hu pins s σ H _ _ v' u' Q I rv ru ⟨pd a, pd b, p1, q1, shaped_of p2 p3 z1, shaped_of q2 q3 z2, by rw [eqP_pd p4 q4]; exact q⟩
theorem o_ne (hu : X.A.units + 64 < cLine) : OpR X (compareOp .NotEq) (r2 X.K (cmpR .ne)) := by
  intro pins s σ H v u v' u' Q I rv ru ⟨m, S, x, y, r, hx, hy, c⟩
  obtain ⟨t, e, q⟩ := cmp_get c r
  have e : (eqD x y S).map (!·) = some t := e
  obtain ⟨t', e', rfl⟩ := Option.map_eq_some_iff.mp e
  obtain ⟨a, b, e1, e2, z1, z2, rfl⟩ := eq_get e'
  obtain ⟨p1, p2, p3, p4⟩ := plain_dp r hx e1
  obtain ⟨q1, q2, q3, q4⟩ := plain_dp r hy e2
  exact op_neD hu pins s σ H _ _ v' u' Q I rv ru ⟨pd a, pd b, p1, q1, shaped_of p2 p3 z1, shaped_of q2 q3 z2, by rw [eqP_pd p4 q4]; exact q⟩

theorem ord_get {x y : D} (h : ordOk x y = true) : x.pur = true ∧ y.pur = true ∧ x.alk y = true ∧ x.dep ≤ maxDep ∧ y.dep ≤ maxDep ∧ x ≠ .non := by
  unfold ordOk at h
  simp only [Bool.and_eq_true, decide_eq_true_eq] at h
  obtain ⟨⟨⟨⟨⟨h1, h2⟩, h3⟩, h4⟩, h5⟩, h6⟩ := h
  refine ⟨h1, h2, h3, h4, h5, ?_⟩
  rintro rfl
  simp [D.isNon] at h6
theorem alk_comm {x y : D} (hx : x.pur = true) (hy : y.pur = true) : x.alk y = y.alk x := by
  rw [← alk_pd x y hx hy, ← alk_pd y x hy hx]
  exact PySem.W.alike_comm _ _
theorem pd_non {x : D} (hp : x.pur = true) (h : x ≠ .non) : pd x ≠ .none := by
  intro e
  cases x with
  | non => exact absurd rfl h
  | ref _ => exact absurd hp (by simp [D.pur])
  | fls _ => exact absurd hp (by simp [D.pur])
  | ctu _ => exact absurd hp (by simp [D.pur])
  | cdc _ => exact absurd hp (by simp [D.pur])
  | _ => simp only [pd] at e; cases e
theorem o_ord {op : CmpOp} {g : PyData → PyData → Bool} {f : D → D → Bool} {o : Cop} (hu : X.A.units + 64 < cLine) (hd : ∀ x y S, cmpD o x y S = if ordOk x y = true then some (f x y) else none)
    (hg : ∀ x y, ordOk x y = true → g (pd x) (pd y) = f x y)
    (rule : ∀ {s : Shared} {a b : Value} {da db : PyData} {as bs : List Addr} {Q : Value → Shared → Prop}, Reads s.heap a da as → Reads s.heap b db bs → PySem.W.alike da db = true → da ≠ .none → X.A.units + min da.depth db.depth < cLine → Q (.bool (g da db)) s → wpAny (model X.prog X.w) X.A (compareOp op a b) Q X.xe s) :
    OpR X (compareOp op) (r2 X.K (cmpR o)) := by
  intro pins s σ H v u v' u' Q I rv ru ⟨m, S, x, y, r, hx, hy, c⟩
  obtain ⟨t, e, q⟩ := cmp_get c r
  rw [hd] at e
  split at e
  · rename_i ho
    cases e
    obtain ⟨h1, h2, h3, h4, h5, h6⟩ := ord_get ho
    obtain ⟨p1, _⟩ := pur_dp hx h1
    obtain ⟨q1, _⟩ := pur_dp hy h2
    obtain ⟨as, ra⟩ := Dp.reads I _ v v' p1 rv
    obtain ⟨bs, rb⟩ := Dp.reads I _ u u' q1 ru
    refine rule ra rb (by rw [alk_pd x y h1 h2]; exact h3) (pd_non h1 h6) ?_ ⟨.bl (f x y), H, I, by rw [hg x y ho]; rfl, q⟩
    rw [dep_pd x h1, dep_pd y h2]
    have : maxDep = 40 := rfl
    omega
  · cases e
theorem o_lt (hu : X.A.units + 64 < cLine) : OpR X (compareOp .Lt) (r2 X.K (cmpR .lt)) :=
  o_ord (g := fun a b => PySem.W.dataLt a b) (f := fun x y => x.lt y) hu (fun _ _ _ => rfl) (fun x y h => let ⟨h1, h2, h3, _⟩ := ord_get h; lt_pd x y h1 h2 h3) PySem.W.lt_data
theorem o_gt (hu : X.A.units + 64 < cLine) : OpR X (compareOp .Gt) (r2 X.K (cmpR .gt)) :=
  o_ord (g := fun a b => PySem.W.dataLt b a) (f := fun x y => y.lt x) hu (fun _ _ _ => rfl) (fun x y h => let ⟨h1, h2, h3, _⟩ := ord_get h; lt_pd y x h2 h1 (by rw [alk_comm h2 h1]; exact h3)) PySem.W.gt_data
theorem o_le (hu : X.A.units + 64 < cLine) : OpR X (compareOp .LtE) (r2 X.K (cmpR .le)) :=
  o_ord (g := fun a b => !PySem.W.dataLt b a) (f := fun x y => !y.lt x) hu (fun _ _ _ => rfl) (fun x y h => let ⟨h1, h2, h3, _⟩ := ord_get h; by rw [lt_pd y x h2 h1 (by rw [alk_comm h2 h1]; exact h3)]) PySem.W.le_data
theorem o_ge (hu : X.A.units + 64 < cLine) : OpR X (compareOp .GtE) (r2 X.K (cmpR .ge)) :=
  o_ord (g := fun a b => !PySem.W.dataLt a b) (f := fun x y => !x.lt y) hu (fun _ _ _ => rfl) (fun x y h => let ⟨h1, h2, h3, _⟩ := ord_get h; by rw [lt_pd x y h1 h2 h3]) PySem.W.ge_data

/-! ### in -/
theorem any_pd {x : D} (hx : x.pur = true) : ∀ ys : List D, D.purs ys = true → ((pds ys).any fun z => PyData.eqv z (pd x)) = ys.any fun z => z.eqv x
  | [], _ => rfl
  | y :: ys, h => by rw [pds, List.any_cons, List.any_cons, eqv_pd y x (purs_cons h).1 hx, any_pd hx ys (purs_cons h).2]
/-- the items of a value, in the model -/
theorem items_at {v : V} {y : D} {ys : List D} (r : Rl K m S H) (h : DV K m H v y) (e : items y S = some ys) :
    ∃ a vs, v = .ref a ∧ DVs K m H vs ys ∧ vs.length ≤ sizeLine ∧ (SqL K H a vs ∨ SqT K H a vs) := by
  cases h with
  | tup hs hd => cases e; exact ⟨_, _, rfl, hd, r.lenT hs, .inr (.inl (.inl hs))⟩
  | fls hs hd => cases e; exact ⟨_, _, rfl, hd, r.lenF hs, .inl hs.sq⟩
  | ref hm =>
    rename_i p n
    simp only [items] at e
    split at e
    · rename_i ds e1
      cases e
      obtain ⟨vs, h1, h2, h3⟩ := lstOf r hm e1
      exact ⟨_, vs, rfl, h2, h3, .inl (.inl (.inl h1))⟩
    · cases e
  | _ => cases e
theorem o_inG {op : CmpOp} {neg : Bool} {o : Cop} (hd : ∀ x y S, cmpD o x y S = (inD x y S).map fun t => if neg then !t else t)
    (rl : ∀ {s : Shared} {c x : Value} {xs : List PyData} {d : PyData} {as bs : List Addr} {Q : Value → Shared → Prop}, Reads s.heap c (.list xs) as → Reads s.heap x d bs → PyData.canLayAll0 xs = true → d.canLay0 = true →
      X.A.units + 1 + min (PyData.depthAll xs) d.depth < cLine → Q (.bool (if neg then !(xs.any fun y => PyData.eqv y d) else xs.any fun y => PyData.eqv y d)) s → wpAny (model X.prog X.w) X.A (compareOp op x c) Q X.xe s)
    (rt : ∀ {s : Shared} {c x : Value} {xs : List PyData} {d : PyData} {as bs : List Addr} {Q : Value → Shared → Prop}, Reads s.heap c (.tuple xs) as → Reads s.heap x d bs → PyData.canLayAll0 xs = true → d.canLay0 = true →
      X.A.units + 1 + min (PyData.depthAll xs) d.depth < cLine → Q (.bool (if neg then !(xs.any fun y => PyData.eqv y d) else xs.any fun y => PyData.eqv y d)) s → wpAny (model X.prog X.w) X.A (compareOp op x c) Q X.xe s)
    (rd : ∀ {pins : List (Addr × Obj)} {σ : L2.St} {H : Hp} {s : Shared} {a : Addr} {y : V} {u : Value} {ov : Option V} {Q : Value → Shared → Prop}, L2.Inv X pins σ H s → DGet H a y ov → RelV y u →
      (∀ s', L2.Inv X pins σ H s' → Q (.bool (if neg then !ov.isSome else ov.isSome)) s') → wpAny (model X.prog X.w) X.A (compareOp op u (.ref a)) Q X.xe s)
    (rs : OpR X (compareOp op) (fun x y H Q => ∃ (c : Nat) (z : Str), x = .str ⟨#[c]⟩ ∧ y = .str z ∧ Q (.bl (if neg then !decide (c ∈ z.cps.toList) else decide (c ∈ z.cps.toList))) H))
    (rk : ∀ {d : Addr} {es : Array DictEntry} {n : Nat}, KDict X.K X.w d es n → OpR X (compareOp op) (fun x y H Q => ∃ (z : Str) (r : Option Value), x = .str z ∧ y = .ref d ∧ PySem.W.nsIn X.K d z = some r ∧ Q (.bl (if neg then !r.isSome else r.isSome)) H))
    (kd : ∀ a, PySem.W.nsIn X.K mainGlobals "OBSTACLES" = some (some (.ref a)) → ∃ es n, KDict X.K X.w a es n)
    (hu : X.A.units + 64 < cLine) : OpR X (compareOp op) (r2 X.K (cmpR o)) := by
  intro pins s σ H v u v' u' Q I rv ru ⟨m, S, x, y, r, hx, hy, c⟩
  have c0 := c
  obtain ⟨t, e, q⟩ := cmp_get c r
  have e0 := e
  rw [hd] at e
  obtain ⟨t', e', rfl⟩ := Option.map_eq_some_iff.mp e
  unfold inD at e'
  split at e'
  · rename_i o9 e9
    subst e'
    cases hx with
    | str cc hc =>
      cases hy with
      | @cdc a kvs h =>
        cases e9
        obtain ⟨es, n, D⟩ := kd a h.1
        obtain ⟨r9, h1, h2⟩ := h.2 cc
        have hb : r9.isSome = (kvs.find? fun p => p.1 == cc).isSome := by
          cases hf : kvs.find? fun p => p.1 == cc with
          | none =>
            rw [hf] at h2
            have h2 : r9 = none := h2
            rw [h2]
            rfl
          | some p =>
            rw [hf] at h2
            obtain ⟨⟨t, h3⟩, _⟩ := h2
            rw [h3]
            rfl
        exact rk D pins s σ H _ _ v' u' Q I rv ru ⟨cc, r9, rfl, rfl, h1, by rw [hb]; exact q⟩
      | str z hz =>
        have e9 : (some (if cc.length = 1 then some (decide (cc.cps.getD 0 0 ∈ z.cps.toList)) else none) : Option (Option Bool)) = some (some t') := e9
        split at e9
        · rename_i hl
          cases e9
          have ec : cc = ⟨#[cc.cps.getD 0 0]⟩ := by
            obtain ⟨cp⟩ := cc
            obtain ⟨l⟩ := cp
            match l, hl with
            | [d], _ => rfl
          exact rs pins s σ H _ _ v' u' Q I rv ru ⟨cc.cps.getD 0 0, z, by rw [← ec], rfl, q⟩
        · cases e9
      | _ => cases e9
    | _ => cases hy <;> cases e9
  split at e'
  · rename_i kvs ed
    split at e'
    · rename_i hz
      cases e'
      cases hy with
      | @ref a n hm =>
        have ed : (match S[n]? with
          | some (.dic kvs) => some kvs
          | _ => none) = some kvs := ed
        split at ed
        · rename_i kvs' e1
          cases ed
          obtain ⟨H2, ov, I2, g, r2, dg, lk⟩ := dic_get I r hm e1 hx hz
          have hb : ov.isSome = (lookD kvs x).isSome := by
            revert lk
            cases ov <;> cases lookD kvs x <;> intro lk <;> first | rfl | exact False.elim lk
          cases ru
          refine rd I2 dg rv fun s' I' => ⟨.bl _, H2, I', rfl, ?_⟩
          rw [hb]
          unfold cmpR at c0
          rw [e0] at c0
          exact Cont.done (c0.mono g) r2 (.bl _)
        · cases ed
      | _ => cases ed
    · cases e'
  split at e'
  · rename_i ys e1
    split at e'
    · rename_i hz
      simp only [Bool.and_eq_true, decide_eq_true_eq] at hz
      obtain ⟨⟨⟨hpx, hpy⟩, hdx⟩, hdy⟩ := hz
      cases e'
      obtain ⟨a, vs, rfl, dvs, hl, hs⟩ := items_at r hy e1
      obtain ⟨p1, p2⟩ := pur_dp hx hpx
      obtain ⟨q1, q2⟩ := purs_dp dvs hpy
      obtain ⟨bs, rb⟩ := Dp.reads I _ v v' p1 rv
      have hroom : X.A.units + 1 + min (PyData.depthAll (pds ys)) (pd x).depth < cLine := by
        rw [dep_pd x hpx]
        have : maxDep = 40 := rfl
        omega
      rcases hs with hs | hs
      · obtain ⟨as, ra⟩ := Dp.reads I (.list (pds ys)) _ u' (.lst hs q1) ru
        exact rl ra rb q2 p2 hroom ⟨.bl _, H, I, by rw [any_pd hpx ys hpy]; exact rfl, q⟩
      · obtain ⟨as, ra⟩ := Dp.reads I (.tuple (pds ys)) _ u' (.tup hs q1) ru
        exact rt ra rb q2 p2 hroom ⟨.bl _, H, I, by rw [any_pd hpx ys hpy]; exact rfl, q⟩
    · cases e'
  · cases e'
theorem o_in (kd : ∀ a, PySem.W.nsIn X.K mainGlobals "OBSTACLES" = some (some (.ref a)) → ∃ es n, KDict X.K X.w a es n) (hu : X.A.units + 64 < cLine) : OpR X (compareOp .In) (r2 X.K (cmpR .isin)) :=
  o_inG (neg := false) (fun x y S => by show inD x y S = _; cases inD x y S <;> rfl) (fun a b c d e f => SeqAt.in_list_reads a b c d e f) (fun a b c d e f => SeqAt.in_tuple_reads a b c d e f) (fun I g ry h => d_in (by omega) I g ry h) op_in_sign (fun D => op_in_kd D) kd hu
theorem o_notin (kd : ∀ a, PySem.W.nsIn X.K mainGlobals "OBSTACLES" = some (some (.ref a)) → ∃ es n, KDict X.K X.w a es n) (hu : X.A.units + 64 < cLine) : OpR X (compareOp .NotIn) (r2 X.K (cmpR .notin)) :=
  o_inG (neg := true) (fun x y S => by show (inD x y S).map _ = _; cases inD x y S <;> rfl) (fun a b c d e f => SeqAt.notIn_list_reads a b c d e f) (fun a b c d e f => SeqAt.notIn_tuple_reads a b c d e f) (fun I g ry h => d_notIn (by omega) I g ry h) op_notIn_sign (fun D => op_notIn_kd D) kd hu
end
end PV

/-! sorted of tuples of which some are empty: the third way of the sort's choice of comparison -/
namespace PV.Mix
open PySem PySem.W PySem.SeqAt PySem.Calls PyProof.Rows
section
variable {prog : Program} {w : World} {A : Around} {E : Value → Shared → Prop} {s : Shared}
/-- tuple's own __lt__, called -/
theorem tupLt {Q : Value → Shared → Prop} {p q : Addr} {xs ys : Array Value} {e r : Nat → Bool} (hp : s.heap.IsTuple p xs) (hq : s.heap.IsTuple q ys)
    (he : ∀ j (h1 : j < xs.size) (h2 : j < ys.size), EqAt A.in1 s xs[j] ys[j] (e j)) (hr : ∀ j (h1 : j < xs.size) (h2 : j < ys.size), e j = false → RcLt A.in1 s xs[j] ys[j] (r j))
    (k : Q (.bool (firstLt e r (decide (xs.size < ys.size)) (List.range (min xs.size ys.size)))) s) : wpAny (model prog w) A (call (.builtin "tuple.__lt__") [.ref p, .ref q]) Q E s := by
  obtain ⟨⟨c1, d1, a1, l1⟩, o1, t1, n1, z1⟩ := id hp
  obtain ⟨⟨c2, d2, a2, l2⟩, o2, t2, n2, z2⟩ := id hq
  simp only at t1 z1 t2 z2
  subst t1 z1 t2 z2
  exact call_meets F.slot_tuple_lt ⟨_, o1, rfl⟩ F.entry_tuple_lt (F.args_tuple_lt_2 _ _) (tuple_ltAt p q xs ys n1 n2 d1 d2 l1 l2 e r) ⟨o1, o2, he, hr, k⟩

theorem oneTup {xs ys : List PyData} {a b : Value} {as bs : List Addr} {Q : Bool → Shared → Prop} (ra : Reads s.heap a (.tuple xs) as) (rb : Reads s.heap b (.tuple ys) bs) (hal : alikeAll xs ys = true)
    (hu : A.units + min (PyData.depth (.tuple xs)) (PyData.depth (.tuple ys)) < cLine) (hq : Q (dataLt (.tuple xs) (.tuple ys)) s) : wpAny (model prog w) A (oneLt' true a b) Q E s := by
  cases ra with
  | @tuple p o1 vs n1 _ _ h1 h2 h3 h4 =>
    cases rb with
    | @tuple q o2 ws n2 _ _ k1 k2 k3 k4 =>
      have z1 : vs.size = xs.length := by simpa using ReadsAll.length _ _ _ h4
      have z2 : ws.size = ys.length := by simpa using ReadsAll.length _ _ _ k4
      rw [dataLt_tuple, ← firstLt_toks xs ys hal, ← z1, ← z2] at hq
      rw [oneLt'_eq]
      simp only [if_true]
      have ee := eqAt_alikeAll xs ys A.in1 s vs.toList ws.toList _ _ h4 k4 hal (room_in hu)
      have ll := rcLt_alikeAll xs ys A.in1 s vs.toList ws.toList _ _ h4 k4 hal (room_in hu)
      refine wpAny_bind (wpAny_cRoomFor (room_here hu) (wpAny_bind (wpAny_callSpecialIfBound?_slot (T := "tuple") ⟨_, h1, h2⟩ F.slot_tuple_lt
        (tupLt (e := pairEq xs ys) (r := fun j => dataLt (xs.getD j .none) (ys.getD j .none)) ⟨_, h1, h2, _, h3⟩ ⟨_, k1, k2, _, k3⟩ (fun j j1 j2 => ?_) (fun j j1 j2 hj => ?_) (wpAny_truthy_bool hq)))))
      · have t := ee j (by simpa using j1) (by simpa using j2)
        simpa using t
      · have t := ll j (by simpa using j1) (by simpa using j2) hj
        simpa using t

/-- the first items, where there are any -/
theorem firsts {ds : List PyData} : ∀ {vs : List Value} {Q : List (Option Value) → Shared → Prop}, EachIs (fun v d => ∃ as, Reads s.heap v d as) vs ds → (∀ d ∈ ds, ∃ xs, d = .tuple xs) →
    (∀ os, os.map (·.isSome) = ds.map (fun d => match d with
      | .tuple (_ :: _) => true
      | _ => false) → Q os s) → wpAny (model prog w) A (vs.mapM firstOfTuple') Q E s := by
  induction ds with
  | nil => intro vs Q e _ h; cases e; rw [List.mapM_nil]; exact wpAny_pure (h [] rfl)
  | cons d ds ih =>
    intro vs Q e ht h
    cases e with
    | @cons v _ vs _ hd tl =>
      obtain ⟨as, r⟩ := hd
      obtain ⟨xs, rfl⟩ := ht _ List.mem_cons_self
      rw [List.mapM_cons, kas_first_eq]
      cases r with
      | @tuple p o its n _ _ ho hc hdt hr =>
        refine wpAny_bind (wpAny_bind (Looks.here (show Looks _ s.heap (typeOf (.ref p)) o.cls from (Looks.ld ho).andThen .now) ?_))
        rw [hc, if_neg (by simp)]
        refine wpAny_bind (listItems_at ho hdt (wpAny_pure (wpAny_bind (ih (Q := fun bs s' => wpAny (model prog w) A (pure (its[0]? :: bs)) Q E s') tl (fun d hd => ht d (List.mem_cons_of_mem _ hd)) fun os hos => wpAny_pure (h _ ?_)))))
        rw [List.map_cons, List.map_cons, hos]
        congr 1
        have hl : its.size = xs.length := by simpa using ReadsAll.length _ _ _ hr
        cases xs with
        | nil => simp at hl; simp [hl]
        | cons x xs => simp at hl; simp [hl]

theorem kinds {ds : List PyData} {vs : List Value} {Q : SortKind → Shared → Prop} (e : EachIs (fun v d => ∃ as, Reads s.heap v d as) vs ds) (ht : ∀ d ∈ ds, ∃ xs, d = .tuple xs) (hne : PyData.tuple [] ∈ ds) (h1 : ds.head? ≠ some (.tuple []) → Q general' s) (h2 : ds.head? = some (.tuple []) → Q oneType' s) :
    wpAny (model prog w) A (keyKind' vs.toArray) Q E s := by
  rw [kat_kind_eq, List.mapM_toArray, map_eq_pure_bind]
  refine wpAny_bind (wpAny_bind (firsts e ht fun os hos => wpAny_pure ?_))
  have hall : ¬ (os.toArray.all fun x => x.isSome) = true := by
    simp only [List.all_toArray, List.all_eq_true]
    intro hh
    have : ∀ b ∈ os.map (·.isSome), b = true := fun b hb => by
      obtain ⟨o, ho, rfl⟩ := List.mem_map.mp hb
      exact hh o ho
    rw [hos] at this
    exact absurd (this _ (List.mem_map.mpr ⟨_, hne, rfl⟩)) (by simp)
  rw [if_neg hall]
  have hd0 : ((os.toArray[0]?).bind id).isSome = (match ds.head? with
      | some (.tuple (_ :: _)) => true
      | _ => false) := by
    cases ds with
    | nil => cases hne
    | cons d ds =>
      cases os with
      | nil => simp at hos
      | cons o os =>
        rw [List.map_cons, List.map_cons] at hos
        have := (List.cons.inj hos).1
        simp only [List.getElem?_toArray, List.getElem?_cons_zero, Option.bind_some, id, List.head?_cons]
        rw [this]
        cases d with
        | tuple xs => cases xs <;> rfl
        | _ => rfl
  rw [hd0]
  obtain ⟨d0, dr, rfl⟩ : ∃ d0 dr, ds = d0 :: dr := by cases ds with
    | nil => cases hne
    | cons d dr => exact ⟨d, dr, rfl⟩
  obtain ⟨x0, rfl⟩ := ht _ List.mem_cons_self
  cases x0 with
  | cons y ys =>
    simp only [List.head?_cons, if_true]
    exact wpAny_pure (h1 (by simp))
  | nil =>
    simp only [List.head?_cons, Bool.false_eq_true, if_false]
    rw [oneTypeOnly'_eq, List.mapM_toArray, map_eq_pure_bind]
    refine wpAny_bind (wpAny_bind (wpAny_bind (kas_mapM (r := Value.type "tuple") vs (fun v hv R hr => ?_) (wpAny_pure ?_))))
    · obtain ⟨d, hd, as, r⟩ := e.left v hv
      obtain ⟨xs, rfl⟩ := ht d hd
      exact (looks_reads r).here hr
    · have hv : vs ≠ [] := by rintro rfl; cases e
      have q1 : ((vs.map fun _ => Value.type "tuple").toArray.all fun x => x == Value.type "tuple") = true := by simp
      have q0 : (vs.map fun _ => Value.type "tuple").toArray[0]? = some (Value.type "tuple") := by
        cases vs with
        | nil => exact absurd rfl hv
        | cons _ _ => simp
      rw [q0]
      simp only [q1, if_true]
      exact wpAny_pure (wpAny_pure (h2 rfl))

/-- tuples, some of them empty, can be sorted -/
theorem sortsMixed {ds : List PyData} {vs : List Value} (e : EachIs (fun v d => ∃ as, Reads s.heap v d as) vs ds) (hal : AllAlike ds) (ht : ∀ d ∈ ds, ∃ xs, d = .tuple xs) (hne : PyData.tuple [] ∈ ds) (hu : ∀ d, d ∈ ds → A.units + d.depth < cLine) :
    SortsAt prog w A s (dataKind s.heap ds) vs := by
  have room : ∀ {d d' : PyData}, d ∈ ds → A.units + min d.depth d'.depth < cLine := fun {d d'} hd => Nat.lt_of_le_of_lt (Nat.add_le_add_left (Nat.min_le_left _ _) _) (hu d hd)
  refine ⟨fun v hv => ?_, ?_⟩
  · obtain ⟨d, hd, as, r⟩ := e.left v hv
    exact ⟨_, dataKind_some hal hd r⟩
  · have lt : ∀ f : Bool, ∀ (E : Value → Shared → Prop) (x y : Value) (a b : (dataKind s.heap ds).α) {Q : Bool → Shared → Prop}, (dataKind s.heap ds).keyOf x = some a → (dataKind s.heap ds).keyOf y = some b → Q ((dataKind s.heap ds).blt a b) s →
        wpAny (model prog w) A (oneLt' f x y) Q E s := by
      intro f E x y a b Q ha hb hq
      obtain ⟨d, as, hd, ra, rfl⟩ := dataKind_inv ha
      obtain ⟨d', bs, hd', rb, rfl⟩ := dataKind_inv hb
      obtain ⟨xs, rfl⟩ := ht d hd
      obtain ⟨ys, rfl⟩ := ht d' hd'
      have al := hal _ hd _ hd'
      cases f with
      | false => exact oneLt_alike (fun z => nomatch z) ra rb al (fun z => nomatch z) (room hd) hq
      | true => exact oneTup ra rb (by simpa [alike] using al) (room hd) hq
    by_cases h0 : ds.head? = some (.tuple [])
    · exact ⟨oneType', fun E x y a b Q ha hb hq => by rw [keyLt'_oneType]; exact lt true E x y a b ha hb hq, fun _ E Q hq => kinds e ht hne (fun z => absurd h0 z) fun _ => hq⟩
    · exact ⟨general', fun E x y a b Q ha hb hq => lt false E x y a b ha hb hq, fun _ E Q hq => kinds e ht hne (fun _ => hq) fun z => absurd z h0⟩
end
end PV.Mix

namespace PV
open PySem PySem.Spec PyProof.Rows L2
/-! ### sorted, whatever is walked -/
section
variable {prog : Program} {w : World} {A : Around} {E : Value → Shared → Prop} {s : Shared}
theorem sortedBy {a : Addr} {Q : Value → Shared → Prop}
    (hc : wpAny (model prog w) A.in1 (collect (.ref a)) (fun out s1 => out.length ≤ sizeLine ∧ ∃ κ, PySem.W.SortsAt prog w A.in1.in1 { s1 with heap := PySem.W.sortingHeap (s1.heap.push (seqObj "list" out.toArray 0)) s1.heap.objs.size out } κ out ∧
      Q (.ref s1.heap.objs.size) { s1 with heap := sortedHeap (s1.heap.push (seqObj "list" out.toArray 0)) s1.heap.objs.size out (PySem.W.sortVals κ false out out).toArray }) (fun _ _ => False) s) :
    wpAny (model prog w) A (call (.builtin "sorted") [.ref a]) Q E s := by
  refine call_function_entry_kw kind_sorted plain_sorted entry_sorted (args_sorted1 _) ?_
  unfold Builtin.«sorted»
  refine wpAny_bind (m := checkCount "sorted" 1 1 _) (wpAny_pure (wpAny_bind (wpAny_mono hc (fun out s1 ⟨hL, κ, S, q⟩ => ?_) fun _ _ z => z.elim)))
  refine wpAny_bind (wpAny_newList ?_ hL)
  have here : (s1.heap.push (seqObj "list" out.toArray 0)).get? s1.heap.objs.size = some (seqObj "list" out.toArray 0) := Heap.get?_push_size _ rfl
  refine wpAny_bind (wpAny_holding (wpAny_call_entry_kw (kw := []) slot_list_sort ⟨_, here, rfl⟩ entry_list_sort ?_ (args_list_sort _)))
  exact PySem.W.list_sort_vals (s := { s1 with heap := s1.heap.push (seqObj "list" out.toArray 0) }) here S hL ⟨.none, rfl, wpAny_pure ⟨_, rfl, q⟩⟩
end

section
variable {K : PySem.W.Frag} {m : List Addr} {H : Hp} {S : Sto}
theorem sortable_get {xs : List D} (h : sortable xs = true) : D.purs xs = true ∧ D.deps xs ≤ maxDep ∧ (∀ a ∈ xs, ∀ b ∈ xs, a.alk b = true) ∧ ∀ a ∈ xs, a ≠ .non := by
  unfold sortable at h
  simp only [Bool.and_eq_true, decide_eq_true_eq, List.all_eq_true] at h
  obtain ⟨⟨⟨h1, h2⟩, h3⟩, h4⟩ := h
  refine ⟨h1, h2, fun a ha b hb => h3 a ha b hb, fun a ha => ?_⟩
  rintro rfl
  simpa [D.isNon] using h4 _ ha
theorem dep_le {x : D} : ∀ {xs : List D}, x ∈ xs → x.dep ≤ D.deps xs
  | y :: ys, h => by
    rw [D.deps]
    rcases List.mem_cons.mp h with rfl | h
    · exact Nat.le_max_left _ _
    · exact Nat.le_trans (dep_le h) (Nat.le_max_right _ _)
/-- values that read as a row that can be sorted -/
theorem sortsAt {prog : Program} {w : World} {A : Around} {s : Shared} {xs : List D} {vs : List Value} (h : sortable xs = true) (e : PySem.W.EachIs (fun v d => ∃ as, Reads s.heap v d as) vs (pds xs)) (hu : A.units + 64 < cLine) :
    PySem.W.SortsAt prog w A s (PySem.W.dataKind s.heap (pds xs)) vs := by
  obtain ⟨h1, h2, h3, h4⟩ := sortable_get h
  have pur := (purs_iff xs).mp h1
  have hmx : maxDep = 40 := rfl
  have room : ∀ d, d ∈ pds xs → A.units + d.depth < cLine := by
    intro d hd
    rw [pds_map] at hd
    obtain ⟨x, hx, rfl⟩ := List.mem_map.mp hd
    rw [dep_pd x (pur x hx)]
    have := dep_le hx
    omega
  have al : PySem.W.AllAlike (pds xs) := by
    intro d hd d' hd'
    rw [pds_map] at hd hd'
    obtain ⟨x, hx, rfl⟩ := List.mem_map.mp hd
    obtain ⟨y, hy, rfl⟩ := List.mem_map.mp hd'
    rw [alk_pd x y (pur x hx) (pur y hy)]
    exact h3 x hx y hy
  by_cases ht : ∃ t, D.tup t ∈ xs
  · obtain ⟨t, ht⟩ := ht
    have all : ∀ d ∈ pds xs, ∃ ys, d = .tuple ys := by
      intro d hd
      rw [pds_map] at hd
      obtain ⟨x, hx, rfl⟩ := List.mem_map.mp hd
      have := h3 x hx _ ht
      cases x with
      | tup ys => exact ⟨pds ys, rfl⟩
      | _ => exact absurd this (by simp [D.alk])
    by_cases he : PyData.tuple [] ∈ pds xs
    · exact Mix.sortsMixed e al all he room
    · refine PySem.W.SortsAt.data e al (.inl fun d hd => ?_) room
      obtain ⟨ys, rfl⟩ := all d hd
      cases ys with
      | nil => exact absurd hd he
      | cons y ys => exact ⟨y, ys, rfl⟩
  · refine PySem.W.SortsAt.data e al (.inr fun d hd => ?_) room
    rw [pds_map] at hd
    obtain ⟨x, hx, rfl⟩ := List.mem_map.mp hd
    refine ⟨pd_non (pur x hx) (h4 x hx), fun ys z => ?_⟩
    cases x with
    | tup ys => exact ht ⟨ys, hx⟩
    | _ => first | (simp only [pd] at z; cases z) | exact absurd (pur _ hx) (by simp [D.pur])

variable {X : Cx} {pins : List (Addr × Obj)} {σ : Sg} {s : Shared}
theorem reads_each (I : Inv X pins σ H s) {vs : List V} {us : List Value} {xs : List D} {h : Heap} (hk : ∀ b o, s.heap.get? b = some o → h.get? b = some o) (hd : DVs X.K m H vs xs) (hp : D.purs xs = true) (r : Vals vs us) :
    PySem.W.EachIs (fun v d => ∃ as, Reads h v d as) us (pds xs) := by
  induction xs generalizing vs us with
  | nil => cases hd; cases r; exact .nil
  | cons x xs ih =>
    cases hd with
    | cons h1 h2 =>
      cases r with
      | cons r1 r2 =>
        obtain ⟨as, q⟩ := Dp.reads I _ _ _ (pur_dp h1 (purs_cons hp).1).1 r1
        exact .cons ⟨as, PyProof.Rows.Reads.keeps hk q⟩ (ih h2 (purs_cons hp).2 r2)
theorem each_pairs {vs : List V} {us : List Value} {xs : List D} (hd : DVs K m H vs xs) (r : Vals vs us) : PySem.W.EachIs (fun (u : Value) (p : V × D) => RelV p.1 u ∧ DV K m H p.1 p.2) us (vs.zip xs) := by
  induction xs generalizing vs us with
  | nil => cases hd; cases r; exact .nil
  | cons x xs ih =>
    cases hd with
    | cons h1 h2 =>
      cases r with
      | cons r1 r2 => exact .cons ⟨r1, h1⟩ (ih h2 r2)
theorem pairs_each : ∀ {bs : List (V × D)} {us : List Value}, PySem.W.EachIs (fun (u : Value) (p : V × D) => RelV p.1 u ∧ DV K m H p.1 p.2) us bs → Vals (bs.map (·.1)) us ∧ DVs K m H (bs.map (·.1)) (bs.map (·.2))
  | [], _, h => by cases h; exact ⟨.nil, .nil⟩
  | p :: bs, _, h => by
    cases h with
    | cons h1 h2 =>
      obtain ⟨q1, q2⟩ := pairs_each h2
      exact ⟨.cons h1.1 q1, .cons h1.2 q2⟩
theorem zip_snd {vs : List V} {xs : List D} (h : vs.length = xs.length) : (vs.zip xs).map (·.2) = xs := by
  rw [List.map_snd_zip]; omega

/-- the sorted values stand for the sorted row -/
theorem sortedOut {h : Heap} {vs : List V} {us : List Value} {xs : List D} (hs : sortable xs = true) (hd : DVs K m H vs xs) (r : Vals vs us) (e : PySem.W.EachIs (fun v d => ∃ as, Reads h v d as) us (pds xs)) :
    ∃ ws : List V, Vals ws (PySem.W.sortVals (PySem.W.dataKind h (pds xs)) false us us) ∧ DVs K m H ws (sorted xs) := by
  obtain ⟨h1, h2, h3, h4⟩ := sortable_get hs
  have pur := (purs_iff xs).mp h1
  have hz : (vs.zip xs).map (·.2) = xs := zip_snd hd.length
  have hp : (vs.zip xs).map (fun p => pd p.2) = pds xs := by
    rw [pds_map, ← hz, List.map_map]
    simp only [hz]
    rfl
  have al : PySem.W.AllAlike ((vs.zip xs).map fun p => pd p.2) := by
    rw [hp]
    intro d hd d' hd'
    rw [pds_map] at hd hd'
    obtain ⟨x, hx, rfl⟩ := List.mem_map.mp hd
    obtain ⟨y, hy, rfl⟩ := List.mem_map.mp hd'
    rw [alk_pd x y (pur x hx) (pur y hy)]
    exact h3 x hx y hy
  have er : PySem.W.EachIs (fun v (p : V × D) => ∃ as, Reads h v (pd p.2) as) us (vs.zip xs) := PySem.W.each_of_map (R := fun v d => ∃ as, Reads h v d as) (fun p : V × D => pd p.2) (by rw [hp]; exact e)
  have out := PySem.W.sortVals_data false (each_pairs hd r) er al
  rw [hp] at out
  obtain ⟨q1, q2⟩ := pairs_each out
  refine ⟨_, q1, ?_⟩
  have : ((vs.zip xs).mergeSort (PySem.W.dataLe false fun p => pd p.2)).map (·.2) = sorted xs := by
    unfold sorted
    conv => rhs; rw [← hz]
    refine List.map_mergeSort fun p hp q hq => ?_
    have hpx : p.2 ∈ xs := by rw [← hz]; exact List.mem_map.mpr ⟨p, hp, rfl⟩
    have hqx : q.2 ∈ xs := by rw [← hz]; exact List.mem_map.mpr ⟨q, hq, rfl⟩
    show (!PySem.W.dataLt (pd q.2) (pd p.2)) = !q.2.lt p.2
    rw [lt_pd q.2 p.2 (pur _ hqx) (pur _ hpx) (h3 _ hqx _ hpx)]
  rw [this] at q2
  exact q2
theorem sorted_len (xs : List D) : (sorted xs).length = xs.length := by
  unfold sorted; exact (List.mergeSort_perm _ _).length_eq

theorem sorted_ints (ns : List Int) : sorted (ns.map D.int) = (ns.mergeSort fun a b => decide (a ≤ b)).map D.int := by
  unfold sorted
  rw [List.map_mergeSort]
  intro a _ b _
  have e : (D.int b).lt (.int a) = decide (b < a) := by rw [D.lt]
  show _ = !((D.int b).lt (.int a))
  rw [e, Bool.eq_iff_iff]
  simp
theorem sorted_perm {ns ys : List Int} (h : ys.Perm ns) (p : ys.Pairwise (· ≤ ·)) : sorted (ns.map D.int) = ys.map D.int := by
  rw [sorted_ints]
  congr 1
  have q := List.pairwise_mergeSort (le := fun a b : Int => decide (a ≤ b)) (fun a b c h1 h2 => by simp only [decide_eq_true_eq] at *; omega) (fun a b => by simp only [Bool.or_eq_true, decide_eq_true_eq]; omega) ns
  refine List.Perm.eq_of_pairwise (le := fun a b : Int => a ≤ b) (fun a b _ _ h1 h2 => by omega) (q.imp fun h => by simpa using h) p ((List.mergeSort_perm _ _).trans h.symm)
theorem keys_ints : ∀ {ks : List (Key × V)} {kvs : List (D × D)}, DKs K m H keyD ks kvs → (kvs.all fun p => p.1.isK) = true → ∃ ns : List Int, ks.map (·.1) = ns.map Sum.inl ∧ kvs.map (·.1) = ns.map D.int
  | _, _, .nil, _ => ⟨[], rfl, rfl⟩
  | _, _, .cons (a := a) (b := b) h t, e => by
    rw [List.all_cons, Bool.and_eq_true] at e
    obtain ⟨ns, h1, h2⟩ := keys_ints t e.2
    have e1 := e.1
    rw [h.1] at e1
    cases hk : a.1 with
    | inl i => exact ⟨i :: ns, by rw [List.map_cons, List.map_cons, hk, h1], by rw [List.map_cons, List.map_cons, h.1, hk, h2]; rfl⟩
    | inr _ => rw [hk] at e1; cases e1
theorem ints_dvs {K : PySem.W.Frag} {m : List Addr} {H : Hp} : ∀ ns : List Int, DVs K m H (ns.map V.int) (ns.map D.int)
  | [] => .nil
  | x :: ns => .cons (.int x) (ints_dvs ns)
theorem c_sorted (hcalm : X.calm = true) (hu : X.A.units + 70 < cLine) : CallR X (.builtin "sorted") (rN X.K (biD .sorted)) := by
  intro pins s σ H vs us Q I rv ⟨m, S, xs, r, hx, c⟩
  cases hx with
  | nil => exact False.elim c
  | @cons v vs x xs h1 h2 =>
    cases h2 with
    | cons _ h3 => cases h3 with
      | nil =>
        rename_i y _
        have c : Cont X.K (DV X.K) (bi2 .sorted x y S) m H Q := c
        unfold bi2 at c
        split at c <;> exact False.elim c
      | cons _ h4 => cases h4 with
        | nil =>
          exact False.elim c
        | cons _ _ => exact False.elim c
    | nil =>
      have c : Cont X.K (DV X.K) (match dicAt x S with
        | some kvs => if (kvs.all fun p => p.1.isK) = true ∧ kvs.length < 64 then alloc (.lst (sorted (kvs.map (·.1)))) S else .bad
        | none => (lft (items x S) S).bind fun ys S => if sortable ys = true then alloc (.lst (sorted ys)) S else .bad) m H Q := c
      cases ed : dicAt x S with
      | some kvs =>
        rw [ed] at c
        have c2 : Cont X.K (DV X.K) (if (kvs.all fun p => p.1.isK) = true ∧ kvs.length < 64 then alloc (.lst (sorted (kvs.map (·.1)))) S else .bad) m H Q := c
        by_cases hz : (kvs.all fun p => p.1.isK) = true ∧ kvs.length < 64
        · rw [if_pos hz] at c2
          cases h1 with
          | @ref a n hm =>
            have ed : (match S[n]? with
              | some (.dic kvs) => some kvs
              | _ => none) = some kvs := ed
            split at ed
            · rename_i kvs' e1
              cases ed
              rcases r.ob n a _ hm e1 with ⟨ks, e2, d⟩ | ⟨ks, e2, d⟩
              · obtain ⟨ns, k1, k2⟩ := keys_ints d hz.1
                have hl : ns.length < 64 := by
                  have := congrArg List.length k2
                  rw [List.length_map, List.length_map] at this
                  omega
                refine call_sortedDI hcalm pins s σ H _ us Q I rv ⟨a, ks, ns, rfl, .inl e2, k1, hl, fun ys p hp hs hn => ?_⟩
                rw [k2, sorted_perm hp hs] at c2
                exact newLst r (ints_dvs ys) (by rw [List.length_map, hp.length_eq, sizeLine_eq]; omega) c2 _ hn
              · have hnil : kvs = [] := by
                  cases d with
                  | nil => rfl
                  | cons h t =>
                    have h2 := hz.1
                    rw [List.all_cons, Bool.and_eq_true, h.1] at h2
                    cases h2.1
                subst hnil
                cases d
                have I2 := toK I e2
                have hma : a ∈ m := List.mem_of_getElem? hm
                have g := Gro.put r (.dK []) hma
                have hset : S.set n (.dic []) = S := by
                  obtain ⟨h1, h2⟩ := List.getElem?_eq_some_iff.mp e1
                  rw [← h2]; exact List.set_getElem_self _
                have r2 := r.putO (o := .dK []) (O' := .dic []) hm trivial (.inl ⟨[], upd_same, .nil⟩)
                rw [hset] at r2
                refine call_sortedDI hcalm pins s σ _ _ us Q I2 rv ⟨a, [], [], rfl, .inl upd_same, rfl, by decide, fun ys p hp hs hn => ?_⟩
                cases hp.eq_nil
                have e0 : sorted (List.map (fun x : D × D => x.1) []) = [] := by unfold sorted; simp
                rw [e0] at c2
                exact newLst r2 .nil (Nat.zero_le _) (c2.mono g) _ hn
            · cases ed
          | _ => cases ed
        · rw [if_neg hz] at c2
          exact False.elim c2
      | none =>
      rw [ed] at c
      have c : Cont X.K (DV X.K) ((lft (items x S) S).bind fun ys S => if sortable ys = true then alloc (.lst (sorted ys)) S else .bad) m H Q := c
      cases e : items x S with
      | none => rw [e] at c; exact False.elim c
      | some ys =>
        rw [e] at c
        have c : Cont X.K (DV X.K) (if sortable ys = true then alloc (.lst (sorted ys)) S else .bad) m H Q := c
        split at c
        · rename_i hs
          obtain ⟨a, ws, rfl, dw, hl, sq⟩ := items_at r h1 e
          obtain ⟨u, rfl, ru⟩ := vals1 rv
          cases ru
          obtain ⟨its, n, T, o, hT, ho, hc, hd, rw', hlen⟩ : ∃ (its : List Value) (n : Nat) (T : String) (o : Obj), (T = "list" ∨ T = "tuple") ∧ s.heap.get? a = some o ∧ o.cls = .type T ∧ o.data = .seq its.toArray n ∧ Vals ws its ∧ its.length ≤ sizeLine := by
            rcases sq with sq | sq
            · obtain ⟨its, rr, ⟨o, n, ho, hc, _, hd⟩, hz⟩ := I.list sq
              exact ⟨its, n, "list", o, .inl rfl, ho, hc, hd, rr, by rw [← rr.length]; exact hz⟩
            · obtain ⟨its, rr, ⟨o, ho, hc, n, hd⟩, hz⟩ := I.tuple sq
              exact ⟨its, n, "tuple", o, .inr rfl, ho, hc, hd, rr, by rw [← rr.length]; exact hz⟩
          refine sortedBy (wpAny_collect_seq a hT ho hc hd (fun h' hk => ⟨hlen, ?_⟩) (by rw [List.size_toArray]; exact hlen))
          have hk2 : ∀ b o, s.heap.get? b = some o → (PySem.W.sortingHeap (h'.push (seqObj "list" its.toArray 0)) h'.objs.size its).get? b = some o := fun b o q =>
            PySem.W.sortingHeap_old (Nat.ne_of_lt (Heap.lt_size (hk b o q))) (Heap.get?_push_of_some _ (hk b o q))
          have er := reads_each I (h := PySem.W.sortingHeap (h'.push (seqObj "list" its.toArray 0)) h'.objs.size its) hk2 dw (sortable_get hs).1 rw'
          refine ⟨_, sortsAt hs er (by show X.A.units + 1 + 1 + 64 < cLine; omega), ?_⟩
          obtain ⟨ws', q1, q2⟩ := sortedOut hs dw rw' er
          have hz : ws'.length ≤ sizeLine := by rw [q2.length, sorted_len, ← dw.length]; exact hl
          have I1 : Inv X pins σ H { s with heap := h' } := I.kept (t' := s.toks) hk
          have hn : H h'.objs.size = none := I1.hok.fresh (Nat.le_refl _)
          have at0 : (h'.push (seqObj "list" its.toArray 0)).get? h'.objs.size = some (seqObj "list" its.toArray 0) := Heap.get?_push_size _ rfl
          obtain ⟨e9, he9⟩ := sortedHeap_at (out := (PySem.W.sortVals (PySem.W.dataKind (PySem.W.sortingHeap (h'.push (seqObj "list" its.toArray 0)) h'.objs.size its) (pds ys)) false its its).toArray) at0
          refine ⟨.ref h'.objs.size, upd H h'.objs.size (.lst ws'), I1.laid (t' := s.toks) (fun b o q => ?_) (Nat.le_refl _) ⟨hz, _, e9, q1, he9⟩, rfl, newLst r q2 hz c _ hn⟩
          have hb : b < h'.objs.size := Heap.lt_size q
          exact (sortedHeap_old (Nat.ne_of_lt hb) (by rw [size_push']; exact Nat.lt_succ_of_lt hb)).trans (Heap.get?_push_of_some _ q)
        · exact False.elim c
end
end PV

namespace PV
open PySem PySem.Spec PyProof.Rows L2
section
variable {K : PySem.W.Frag} {m : List Addr} {H : Hp} {S : Sto} {X : Cx}
theorem dvs1 {vs : List V} {x : D} (h : DVs K m H vs [x]) : ∃ v, vs = [v] ∧ DV K m H v x := by
  cases h with
  | cons h1 h2 => cases h2; exact ⟨_, rfl, h1⟩
theorem dvs2 {vs : List V} {x y : D} (h : DVs K m H vs [x, y]) : ∃ v u, vs = [v, u] ∧ DV K m H v x ∧ DV K m H u y := by
  cases h with
  | cons h1 h2 =>
    obtain ⟨u, rfl, h3⟩ := dvs1 h2
    exact ⟨_, u, rfl, h1, h3⟩
theorem lft_get {α β : Type} {RV : List Addr → Hp → β → α → Prop} {o : Option α} {Q : β → Hp → Prop} (c : Cont K RV (lft o S) m H Q) : ∃ a, o = some a ∧ Cont K RV (.ok a S) m H Q := by
  cases o with
  | none => exact False.elim c
  | some a => exact ⟨a, rfl, c⟩
theorem dvs3 {vs : List V} {x y z : D} (h : DVs K m H vs [x, y, z]) : ∃ v u w, vs = [v, u, w] ∧ DV K m H v x ∧ DV K m H u y ∧ DV K m H w z := by
  cases h with
  | cons h1 h2 =>
    obtain ⟨u, w, rfl, h3, h4⟩ := dvs2 h2
    exact ⟨_, u, w, rfl, h1, h3, h4⟩
theorem bi3_bad {f : Bi} (h : f ≠ .max) (x y z : D) (S : Sto) : bi3 f x y z S = .bad := by
  unfold bi3
  split
  · exact absurd rfl h
  · rfl
theorem bi3_get {f : Bi} {x y z : D} {Q : V → Hp → Prop} (c : Cont K (DV K) (bi3 f x y z S) m H Q) : ∃ i j k, f = .max ∧ x = .int i ∧ y = .int j ∧ z = .int k ∧ Cont K (DV K) (.ok (.int (if j > i then (if k > j then k else j) else (if k > i then k else i))) S) m H Q := by
  unfold bi3 at c
  split at c
  · exact ⟨_, _, _, rfl, rfl, rfl, rfl, c⟩
  · exact False.elim c
/-- a built-in of one argument -/
theorem c_one {f : Bi} {id : Value} (hb : ∀ x y S, bi2 f x y S = .bad) (rule : ∀ {pins : List (Addr × Obj)} {s : Shared} {σ : Sg} {H : Hp} {v : V} {us : List Value} {Q : VK} {m : List Addr} {S : Sto} {x : D}, Inv X pins σ H s → Vals [v] us → Rl X.K m S H → DV X.K m H v x → Cont X.K (DV X.K) (bi1 f x S) m H Q →
      wpAny (model X.prog X.w) X.A (call id us) (EP X pins σ Q) X.xe s) (hm : f ≠ .max := by decide) : CallR X id (rN X.K (biD f)) := by
  intro pins s σ H vs us Q I rv ⟨m, S, xs, r, hx, c⟩
  match xs, hx, c with
  | [], _, c => exact False.elim c
  | [x, y], _, c => exact False.elim (by have c' : Cont X.K (DV X.K) (bi2 f x y S) m H Q := c; rw [hb] at c'; exact c')
  | [x, y, z], _, c => exact False.elim (by have c' : Cont X.K (DV X.K) (bi3 f x y z S) m H Q := c; rw [bi3_bad hm] at c'; exact c')
  | _ :: _ :: _ :: _ :: _, _, c => exact False.elim c
  | [x], hx, c =>
    obtain ⟨v, rfl, hv⟩ := dvs1 hx
    exact rule I rv r hv c
theorem c_two {f : Bi} {id : Value} (h3 : f ≠ .find) (h4 : f ≠ .join) (rule1 : ∀ {pins : List (Addr × Obj)} {s : Shared} {σ : Sg} {H : Hp} {v : V} {us : List Value} {Q : VK} {m : List Addr} {S : Sto} {x : D}, Inv X pins σ H s → Vals [v] us → Rl X.K m S H → DV X.K m H v x → Cont X.K (DV X.K) (bi1 f x S) m H Q →
      wpAny (model X.prog X.w) X.A (call id us) (EP X pins σ Q) X.xe s) (rule : ∀ {pins : List (Addr × Obj)} {s : Shared} {σ : Sg} {H : Hp} {i j : Int} {us : List Value} {Q : VK} {m : List Addr} {S : Sto}, Inv X pins σ H s → Vals [.int i, .int j] us → Rl X.K m S H → Cont X.K (DV X.K) (bi2 f (.int i) (.int j) S) m H Q →
      wpAny (model X.prog X.w) X.A (call id us) (EP X pins σ Q) X.xe s) (rule3 : ∀ {pins : List (Addr × Obj)} {s : Shared} {σ : Sg} {H : Hp} {i j k : Int} {us : List Value} {Q : VK} {m : List Addr} {S : Sto}, Inv X pins σ H s → Vals [.int i, .int j, .int k] us → Rl X.K m S H → f = .max → Cont X.K (DV X.K) (.ok (.int (if j > i then (if k > j then k else j) else (if k > i then k else i))) S) m H Q →
      wpAny (model X.prog X.w) X.A (call id us) (EP X pins σ Q) X.xe s) : CallR X id (rN X.K (biD f)) := by
  intro pins s σ H vs us Q I rv ⟨m, S, xs, r, hx, c⟩
  match xs, hx, c with
  | [], _, c => exact False.elim c
  | [x], hx, c =>
    obtain ⟨v, rfl, hv⟩ := dvs1 hx
    exact rule1 I rv r hv c
  | [x, y, z], hx, c =>
    obtain ⟨i, j, k, hf, rfl, rfl, rfl, c'⟩ := bi3_get (show Cont X.K (DV X.K) (bi3 f x y z S) m H Q from c)
    obtain ⟨v, u, w, rfl, hv, hu, hw⟩ := dvs3 hx
    cases hv
    cases hu
    cases hw
    exact rule3 I rv r hf c'
  | _ :: _ :: _ :: _ :: _, _, c => exact False.elim c
  | [x, y], hx, c =>
    obtain ⟨v, u, rfl, hv, hu⟩ := dvs2 hx
    cases hv with
    | int i =>
      cases hu with
      | int j => exact rule I rv r c
      | _ => exact False.elim c
    | str a _ => exact False.elim (by
        have c' : Cont X.K (DV X.K) (bi2 f (.str a) y S) m H Q := c
        cases f <;> first | exact c' | exact absurd rfl h3 | exact absurd rfl h4)
    | _ => cases hu <;> exact False.elim c
theorem bi2_bad {f : Bi} (h1 : f ≠ .max) (h2 : f ≠ .min) (x y : D) (S : Sto) (h3 : f ≠ .find := by decide) (h4 : f ≠ .join := by decide) : bi2 f x y S = .bad := by
  unfold bi2
  split
  · cases f <;> first | rfl | exact absurd rfl h1 | exact absurd rfl h2
  · cases f <;> first | rfl | exact absurd rfl h3 | exact absurd rfl h4
  · rfl
theorem c_len : CallR X (.builtin "len") (rN X.K (biD .len)) := c_one (bi2_bad (by decide) (by decide)) fun {pins s σ H v us Q m S x} I rv r hv c => by
  have c : Cont X.K (DV X.K) (lft ((lenD x S).map fun (n : Nat) => D.int n) S) m H Q := c
  obtain ⟨z, e, c⟩ := lft_get c
  obtain ⟨n, e2, rfl⟩ := Option.map_eq_some_iff.mp e
  have q := c.done r (.int _)
  by_cases hs : ∃ z, x = .str z
  · obtain ⟨z, rfl⟩ := hs
    cases hv with
    | str z hz =>
      cases e2
      exact call_len pins s σ H _ us Q I rv ⟨.str z, z.length, rfl, ⟨by rw [← max_line]; exact hz.1, rfl⟩, q⟩
  · have e2 : (match dicAt x S with
      | some kvs => if (kvs.all fun p => p.1.isK) = true then some kvs.length else none
      | none => (items x S).map List.length) = some n := by
      cases x <;> first | exact e2 | exact absurd ⟨_, rfl⟩ hs
    cases ed : dicAt x S with
    | some kvs =>
      rw [ed] at e2
      dsimp only at e2
      split at e2
      · rename_i hz
        cases e2
        cases hv with
        | @ref a k hm =>
          have ed : (match S[k]? with
            | some (.dic kvs) => some kvs
            | _ => none) = some kvs := ed
          split at ed
          · rename_i kvs' e1
            cases ed
            obtain ⟨w, rfl, rw'⟩ := vals1 rv
            cases rw'
            rcases r.ob k a _ hm e1 with ⟨ks, e5, d⟩ | ⟨ks, e5, d⟩
            · rw [← d.len] at q
              exact d_len I (.inl e5) fun t s' I' => ⟨.int ks.length, H, I', ⟨t, rfl⟩, q⟩
            · have hnil : kvs = [] := by
                cases d with
                | nil => rfl
                | cons h t =>
                  rw [List.all_cons, Bool.and_eq_true, h.1] at hz
                  cases hz.1
              subst hnil
              cases d
              have hma : a ∈ m := List.mem_of_getElem? hm
              have g := Gro.put r (.dK []) hma
              have hset : S.set k (.dic []) = S := by
                obtain ⟨h1, h2⟩ := List.getElem?_eq_some_iff.mp e1
                rw [← h2]; exact List.set_getElem_self _
              have r2 := r.putO (o := .dK []) (O' := .dic []) hm trivial (.inl ⟨[], upd_same, .nil⟩)
              rw [hset] at r2
              exact d_len (toK I e5) (.inl upd_same) fun t s' I' => ⟨.int 0, _, I', ⟨t, rfl⟩, (c.mono g).done r2 (.int _)⟩
          · cases ed
        | _ => cases ed
      · cases e2
    | none =>
    rw [ed] at e2
    have e3 : (items x S).map List.length = some n := e2
    obtain ⟨ys, e4, rfl⟩ := Option.map_eq_some_iff.mp e3
    obtain ⟨a', ws, rfl, hd, hl, hq⟩ := items_at r hv e4
    refine call_len pins s σ H _ us Q I rv ⟨.ref a', ys.length, rfl, ?_, q⟩
    rcases hq with hq | hq
    · exact .inl ⟨ws, hq, hd.length.symm⟩
    · exact .inr ⟨ws, hq, hd.length.symm⟩
theorem one_sign {z : Str} (h : z.length = 1) : z = ⟨#[z.cps.getD 0 0]⟩ := by
  obtain ⟨cp⟩ := z
  obtain ⟨l⟩ := cp
  match l, h with
  | [d], _ => rfl
theorem digit_int {z : Str} (h1 : z.length = 1) (h2 : 48 ≤ z.cps.getD 0 0) (h3 : z.cps.getD 0 0 ≤ 57) : PySem.intText? z = some ((z.cps.getD 0 0 : Nat) - 48 : Int) := by
  rw [one_sign h1]
  generalize z.cps.getD 0 0 = d at h2 h3
  show PySem.intText? ⟨#[d]⟩ = some ((d : Nat) - 48 : Int)
  obtain ⟨k, rfl⟩ : ∃ k, d = 48 + k := ⟨d - 48, by omega⟩
  have hk : k < 10 := by omega
  have : ∀ k, k < 10 → PySem.intText? ⟨#[48 + k]⟩ = some (k : Int) := by decide +kernel
  rw [this k hk]
  congr 1
  omega
theorem c_int : CallR X (.type "int") (rN X.K (biD .int)) := c_one (bi2_bad (by decide) (by decide)) fun {pins s σ H v us Q m S x} I rv r hv c => by
  cases hv with
  | int i => exact call_int1 pins s σ H _ us Q I rv (.inl ⟨i, rfl, Cont.done (show Cont X.K (DV X.K) (.ok (.int i) S) m H Q from c) r (.int _)⟩)
  | bl k => exact call_int1 pins s σ H _ us Q I rv (.inr ⟨k, rfl, Cont.done (show Cont X.K (DV X.K) (.ok (.int (b2i k)) S) m H Q from c) r (.int _)⟩)
  | str z hz =>
    have c : Cont X.K (DV X.K) (if z.length = 1 ∧ 48 ≤ z.cps.getD 0 0 ∧ z.cps.getD 0 0 ≤ 57 then .ok (.int ((z.cps.getD 0 0 : Nat) - 48)) S else .bad) m H Q := c
    split at c
    · rename_i hd
      obtain ⟨h1, h2, h3⟩ := hd
      exact call_int_str pins s σ H _ us Q I rv ⟨z, _, rfl, digit_int h1 h2 h3, by omega, Cont.done c r (.int _)⟩
    · exact False.elim c
  | _ => exact False.elim c
theorem c_ord : CallR X (.builtin "ord") (rN X.K (biD .ord)) := c_one (bi2_bad (by decide) (by decide)) fun {pins s σ H v us Q m S x} I rv r hv c => by
  cases hv with
  | str z hz =>
    have c : Cont X.K (DV X.K) (if z.length = 1 then .ok (.int (z.cps.getD 0 0 : Nat)) S else .bad) m H Q := c
    split at c
    · rename_i hd
      exact call_ord pins s σ H _ us Q I rv ⟨z, rfl, hd, Cont.done c r (.int _)⟩
    · exact False.elim c
  | _ => exact False.elim c
theorem c_abs : CallR X (.builtin "abs") (rN X.K (biD .abs)) := c_one (bi2_bad (by decide) (by decide)) fun {pins s σ H v us Q m S x} I rv r hv c => by
  cases hv with
  | int i => exact call_abs pins s σ H _ us Q I rv ⟨i, rfl, Cont.done (show Cont X.K (DV X.K) (.ok (.int (if i < 0 then -i else i)) S) m H Q from c) r (.int _)⟩
  | _ => exact False.elim c
theorem bools_vs : ∀ {ds : List D} {bs : List Bool} {vs : List V}, bools ds = some bs → DVs K m H vs ds → vs = bs.map V.bl
  | [], _, _, e, h => by cases e; cases h; rfl
  | d :: ds, _, _, e, h => by
    cases h with
    | cons h1 h2 =>
      cases h1 with
      | bl b =>
        obtain ⟨bs', e', rfl⟩ := Option.map_eq_some_iff.mp (show (bools ds).map (b :: ·) = _ from e)
        rw [bools_vs e' h2]; rfl
      | _ => exact absurd e (by simp [bools])
theorem intsOf_vs : ∀ {ds : List D} {bs : List Int} {vs : List V}, intsOf ds = some bs → DVs K m H vs ds → vs = bs.map V.int
  | [], _, _, e, h => by cases e; cases h; rfl
  | d :: ds, _, _, e, h => by
    cases h with
    | cons h1 h2 =>
      cases h1 with
      | int b =>
        obtain ⟨bs', e', rfl⟩ := Option.map_eq_some_iff.mp (show (intsOf ds).map (b :: ·) = _ from e)
        rw [intsOf_vs e' h2]; rfl
      | _ => exact absurd e (by simp [intsOf])
theorem lst_at {v : V} {y : D} {ys : List D} (r : Rl K m S H) (h : DV K m H v y) (e : lstItems y S = some ys) : ∃ a vs, v = .ref a ∧ DVs K m H vs ys ∧ SqL K H a vs := by
  cases h with
  | fls hs hd => cases e; exact ⟨_, _, rfl, hd, hs.sq⟩
  | ref hm =>
    rename_i p n
    simp only [lstItems] at e
    split at e
    · rename_i ds e1
      cases e
      obtain ⟨vs, h1, h2, h3⟩ := lstOf r hm e1
      exact ⟨_, vs, rfl, h2, .inl (.inl h1)⟩
    · cases e
  | _ => cases e
theorem c_all (hc : X.calm = true) : CallR X (.builtin "all") (rN X.K (biD .all)) := c_one (bi2_bad (by decide) (by decide)) fun {pins s σ H v us Q m S x} I rv r hv c => by
  have c : Cont X.K (DV X.K) (lft ((lstItems x S).bind fun ys => (bools ys).map fun bs => .bl (bs.all id)) S) m H Q := c
  obtain ⟨z, e, c⟩ := lft_get c
  obtain ⟨ys, e1, e⟩ := Option.bind_eq_some_iff.mp e
  obtain ⟨bs, e2, rfl⟩ := Option.map_eq_some_iff.mp e
  obtain ⟨a, ws, rfl, hd, hs⟩ := lst_at r hv e1
  have := bools_vs e2 hd
  subst this
  exact cr_all hc pins s σ H _ us Q I rv ⟨a, bs, rfl, hs, c.done r (.bl _)⟩
theorem c_any (hc : X.calm = true) : CallR X (.builtin "any") (rN X.K (biD .any)) := c_one (bi2_bad (by decide) (by decide)) fun {pins s σ H v us Q m S x} I rv r hv c => by
  have c : Cont X.K (DV X.K) (lft ((lstItems x S).bind fun ys => (bools ys).map fun bs => .bl (bs.any id)) S) m H Q := c
  obtain ⟨z, e, c⟩ := lft_get c
  obtain ⟨ys, e1, e⟩ := Option.bind_eq_some_iff.mp e
  obtain ⟨bs, e2, rfl⟩ := Option.map_eq_some_iff.mp e
  obtain ⟨a, ws, rfl, hd, hs⟩ := lst_at r hv e1
  have := bools_vs e2 hd
  subst this
  exact cr_any hc pins s σ H _ us Q I rv ⟨a, bs, rfl, hs, c.done r (.bl _)⟩
theorem c_sum (hc : X.calm = true) : CallR X (.builtin "sum") (rN X.K (biD .sum)) := c_one (bi2_bad (by decide) (by decide)) fun {pins s σ H v us Q m S x} I rv r hv c => by
  have c : Cont X.K (DV X.K) (lft ((lstItems x S).bind fun ys => (intsOf ys).map fun bs => .int bs.sum) S) m H Q := c
  obtain ⟨z, e, c⟩ := lft_get c
  obtain ⟨ys, e1, e⟩ := Option.bind_eq_some_iff.mp e
  obtain ⟨bs, e2, rfl⟩ := Option.map_eq_some_iff.mp e
  obtain ⟨a, ws, rfl, hd, hs⟩ := lst_at r hv e1
  have := intsOf_vs e2 hd
  subst this
  exact cr_sum hc pins s σ H _ us Q I rv ⟨a, bs, rfl, hs, c.done r (.int _)⟩

theorem least_get : ∀ (r : List Int) (x : Int), (r.foldl (fun a b => if b < a then b else a) x) ∈ x :: r ∧ ∀ y ∈ x :: r, (r.foldl (fun a b => if b < a then b else a) x) ≤ y
  | [], x => ⟨List.mem_cons_self, fun y hy => by rw [List.mem_singleton.mp hy]; exact Int.le_refl _⟩
  | z :: r, x => by
    rw [List.foldl_cons]
    obtain ⟨h1, h2⟩ := least_get r (if z < x then z else x)
    generalize (r.foldl (fun a b => if b < a then b else a) (if z < x then z else x)) = t at h1 h2
    refine ⟨?_, fun y hy => ?_⟩
    · rcases List.mem_cons.mp h1 with h | h
      · rw [h]
        split
        · exact List.mem_cons_of_mem _ List.mem_cons_self
        · exact List.mem_cons_self
      · exact List.mem_cons_of_mem _ (List.mem_cons_of_mem _ h)
    · have h3 := h2 _ List.mem_cons_self
      rcases List.mem_cons.mp hy with rfl | hy
      · split at h3 <;> omega
      · rcases List.mem_cons.mp hy with rfl | hy
        · split at h3 <;> omega
        · exact h2 y (List.mem_cons_of_mem _ hy)
theorem most_get : ∀ (r : List Int) (x : Int), (r.foldl (fun a b => if b > a then b else a) x) ∈ x :: r ∧ ∀ y ∈ x :: r, y ≤ (r.foldl (fun a b => if b > a then b else a) x)
  | [], x => ⟨List.mem_cons_self, fun y hy => by rw [List.mem_singleton.mp hy]; exact Int.le_refl _⟩
  | z :: r, x => by
    rw [List.foldl_cons]
    obtain ⟨h1, h2⟩ := most_get r (if z > x then z else x)
    generalize (r.foldl (fun a b => if b > a then b else a) (if z > x then z else x)) = t at h1 h2
    refine ⟨?_, fun y hy => ?_⟩
    · rcases List.mem_cons.mp h1 with h | h
      · rw [h]
        split
        · exact List.mem_cons_of_mem _ List.mem_cons_self
        · exact List.mem_cons_self
      · exact List.mem_cons_of_mem _ (List.mem_cons_of_mem _ h)
    · have h3 := h2 _ List.mem_cons_self
      rcases List.mem_cons.mp hy with rfl | hy
      · split at h3 <;> omega
      · rcases List.mem_cons.mp hy with rfl | hy
        · split at h3 <;> omega
        · exact h2 y (List.mem_cons_of_mem _ hy)
theorem vals3m {x y z : V} {us : List Value} (r : Vals [x, y, z] us) : ∃ u v w, us = [u, v, w] ∧ RelV x u ∧ RelV y v ∧ RelV z w := by
  cases r with
  | cons r1 r2 => cases r2 with
    | cons r3 r4 => cases r4 with
      | cons r5 r6 => cases r6; exact ⟨_, _, _, rfl, r1, r3, r5⟩
theorem call_max3m (hc : X.calm = true) : CallR X (.builtin "max") (fun xs H Q => ∃ i j k, xs = [.int i, .int j, .int k] ∧ Q (.int (if j > i then (if k > j then k else j) else (if k > i then k else i))) H) := by
  intro pins s σ H xs us Q I r h
  obtain ⟨i, j, k, rfl, q⟩ := h
  obtain ⟨u, v, w, rfl, ⟨t, rfl⟩, ⟨t', rfl⟩, ⟨t'', rfl⟩⟩ := vals3m r
  refine max_three_ints (I.ok.hd hc) fun h' tk kk => ⟨_, H, I.kept kk, ?_, q⟩
  by_cases h1 : j > i <;> by_cases h2 : k > j <;> by_cases h3 : k > i <;> simp only [h1, h2, h3, if_true, if_false] <;> exact ⟨_, rfl⟩
theorem c_max (hc : X.calm = true) : CallR X (.builtin "max") (rN X.K (biD .max)) := c_two (by decide) (by decide) (fun {pins s σ H v us Q m S x} I rv r hv c => by
    have c : Cont X.K (DV X.K) (lft ((lstItems x S).bind fun ys => (intsOf ys).bind fun bs => (mostI bs).map .int) S) m H Q := c
    obtain ⟨z, e, c⟩ := lft_get c
    obtain ⟨ys, e1, e⟩ := Option.bind_eq_some_iff.mp e
    obtain ⟨bs, e2, e⟩ := Option.bind_eq_some_iff.mp e
    obtain ⟨b, e3, rfl⟩ := Option.map_eq_some_iff.mp e
    obtain ⟨a, ws, rfl, hd, hs⟩ := lst_at r hv e1
    have := intsOf_vs e2 hd
    subst this
    cases bs with
    | nil => cases e3
    | cons x bs =>
      cases e3
      obtain ⟨g1, g2⟩ := most_get bs x
      refine cr_max hc pins s σ H _ us Q I rv ⟨a, x :: bs, rfl, hs, Nat.succ_pos _, fun m h1 h2 => ?_⟩
      have : m = (bs.foldl (fun a b => if b > a then b else a) x) := by
        have := h2 _ g1
        have := g2 _ h1
        omega
      rw [this]
      exact c.done r (.int _))
  (fun {pins s σ H i j us Q m S} I rv r c =>
  call_max2 hc pins s σ H _ us Q I rv ⟨i, j, rfl, Cont.done (show Cont X.K (DV X.K) (.ok (.int (if j > i then j else i)) S) m H Q from c) r (.int _)⟩)
  fun {pins s σ H i j k us Q m S} I rv r _ c => call_max3m hc pins s σ H _ us Q I rv ⟨i, j, k, rfl, Cont.done c r (.int _)⟩
theorem c_min (hc : X.calm = true) : CallR X (.builtin "min") (rN X.K (biD .min)) := c_two (by decide) (by decide) (fun {pins s σ H v us Q m S x} I rv r hv c => by
    have c : Cont X.K (DV X.K) (lft ((lstItems x S).bind fun ys => (intsOf ys).bind fun bs => (leastI bs).map .int) S) m H Q := c
    obtain ⟨z, e, c⟩ := lft_get c
    obtain ⟨ys, e1, e⟩ := Option.bind_eq_some_iff.mp e
    obtain ⟨bs, e2, e⟩ := Option.bind_eq_some_iff.mp e
    obtain ⟨b, e3, rfl⟩ := Option.map_eq_some_iff.mp e
    obtain ⟨a, ws, rfl, hd, hs⟩ := lst_at r hv e1
    have := intsOf_vs e2 hd
    subst this
    cases bs with
    | nil => cases e3
    | cons x bs =>
      cases e3
      obtain ⟨g1, g2⟩ := least_get bs x
      refine cr_min hc pins s σ H _ us Q I rv ⟨a, x :: bs, rfl, hs, Nat.succ_pos _, fun m h1 h2 => ?_⟩
      have : m = (bs.foldl (fun a b => if b < a then b else a) x) := by
        have := h2 _ g1
        have := g2 _ h1
        omega
      rw [this]
      exact c.done r (.int _))
  (fun {pins s σ H i j us Q m S} I rv r c =>
  call_min2 hc pins s σ H _ us Q I rv ⟨i, j, rfl, Cont.done (show Cont X.K (DV X.K) (.ok (.int (if j < i then j else i)) S) m H Q from c) r (.int _)⟩)
  fun {pins s σ H i j k us Q m S} I rv r hf _ => absurd hf (by decide)

/-! ### isinstance -/
def tyN : Ty → String
  | .int => "int" | .bool => "bool" | .tuple => "tuple" | .str => "str" | .list => "list"
theorem sqT_ty {a : Addr} {xs : List V} (h : H a = some (.tup xs)) : TyX K H (.ref a) (.type "tuple") := .base (.tup h)
theorem isi_at {v : V} {x : D} {t : Ty} {b : Bool} (h : DV K m H v x) (e : isiD x t = some b) : ∃ n : String, TyX K H v (.type n) ∧ PySem.W.kitOne K (.type n) (.type (tyN t)) = some b := by
  cases h with
  | non => refine ⟨_, .base .non, ?_⟩; cases t <;> cases e <;> exact kit_ty (by decide +kernel)
  | bl k => refine ⟨_, .base (.bl k), ?_⟩; cases t <;> cases e <;> exact kit_ty (by decide +kernel)
  | int i => refine ⟨_, .base (.int i), ?_⟩; cases t <;> cases e <;> exact kit_ty (by decide +kernel)
  | str z _ => refine ⟨_, .base (.str z), ?_⟩; cases t <;> cases e <;> exact kit_ty (by decide +kernel)
  | tup hs _ => refine ⟨_, sqT_ty hs, ?_⟩; cases t <;> cases e <;> exact kit_ty (by decide +kernel)
  | _ => cases t <;> cases e
def isiR (t : Ty) (x : D) (S : Sto) : R D := (lft (isiD x t) S).bind fun t S => .ok (.bl t) S
theorem c_isi {t : Ty} : CallR X (.builtin "isinstance") (fun vs H Q => ∃ v, vs = [v, .ty (tyN t)] ∧ r1 X.K (isiR t) v H Q) := by
  intro pins s σ H vs us Q I rv ⟨v, e, m, S, x, r, hv, c⟩
  subst e
  have c : Cont X.K (DV X.K) ((lft (isiD x t) S).bind fun t S => .ok (.bl t) S) m H Q := c
  cases e : isiD x t with
  | none => rw [e] at c; exact False.elim c
  | some b =>
    rw [e] at c
    obtain ⟨n, h1, h2⟩ := isi_at hv e
    exact call_isi pins s σ H _ us Q I rv ⟨v, _, _, _, b, rfl, .ty _, h1, h2, Cont.done (show Cont X.K (DV X.K) (.ok (.bl b) S) m H Q from c) r (.bl _)⟩

/-! ### x[i] -/
theorem atI_at {vs : List V} {ds : List D} {i : Int} {d : D} (h : DVs K m H vs ds) (e : atI ds i = some d) : ∃ v, L2.atI vs i = some v ∧ DV K m H v d := by
  unfold atI at e
  obtain ⟨j, e1, e2⟩ := Option.bind_eq_some_iff.mp e
  obtain ⟨v, h1, h2⟩ := h.get e2
  refine ⟨v, ?_, h2⟩
  unfold L2.atI
  have e3 : L2.ixN vs.length i = some j := by rw [h.length]; exact e1
  rw [e3]
  exact h1
theorem strOk_one {z : Str} {c : Nat} (h : PyData.strOk z = true) (hc : c ∈ z.cps.toList) : PyData.strOk ⟨#[c]⟩ = true := by
  unfold PyData.strOk at *
  rw [Array.all_eq_true'] at h
  have := h c (Array.mem_toList_iff.mp hc)
  simpa using this
theorem strOk_sub {z : Str} {l : List Nat} (h : PyData.strOk z = true) (hl : ∀ c ∈ l, c ∈ z.cps.toList) : PyData.strOk ⟨l.toArray⟩ = true := by
  unfold PyData.strOk at *
  rw [Array.all_eq_true'] at h ⊢
  intro c hc
  exact h c (Array.mem_toList_iff.mp (hl c (by simpa using hc)))
def ixR (x y : D) (S : Sto) : R D := lft (ixD x y S) S
theorem ix_dic (hu : X.A.units + 1 < cLine) {value slice : Expr} {pins : List (Addr × Obj)} {s : Shared} {σ : Sg} {H : Hp} {a : Addr} {n : Nat} {u : V} {u' : Value} {y d : D} {Q : VK} {kvs : List (D × D)} (I : Inv X pins σ H s) (ru : RelV u u') (r : Rl X.K m S H)
    (hm : m[n]? = some a) (e1 : S[n]? = some (.dic kvs)) (hy : DV X.K m H u y) (e : dixD kvs y = some d) (c : Cont X.K (DV X.K) (.ok d S) m H Q) (hs : subscripted slice false (.ref a) u' = operate [.ref a, u'] (getItem (.ref a) u')) :
    wpAny (model X.prog X.w) X.A (subscriptTail value slice (.ref a) u') (EP X pins σ Q) X.xe s := by
  unfold dixD at e
  split at e
  · rename_i hz
    obtain ⟨H2, ov, I2, g, r2, dg, lk⟩ := dic_get I r hm e1 hy hz
    rw [e] at lk
    cases ov with
    | none => exact False.elim lk
    | some w =>
      have hT := dict_typeIs I2 dg
      unfold subscriptTail
      refine wpAny_bind ?_
      rw [getitemInPython_of_ne hT.not_modules]
      refine wpAny_bind (wpAny_specialOf hT PySem.F.slot_dict_getitem.lookup ?_)
      have fin : wpAny (model X.prog X.w) X.A (subscripted slice false (.ref a) u') (fun r s₃ => wpAny (model X.prog X.w) X.A (letTemporaryGo value (.ref a) r >>= fun _ => pure r) (EP X pins σ Q) X.xe s₃) X.xe s := by
        rw [hs]
        exact wpAny_operating (d_getItem hu I2 dg ru fun w' s3 I3 rw' => wpAny_bind (wpAny_letTemporaryGo (wpAny_pure ⟨w, H2, I3, rw', (c.mono g).done r2 lk⟩)))
      first
        | exact wpAny_pure (wpAny_bind fin)
        | exact wpAny_bind (wpAny_pure (wpAny_bind fin))
        | exact wpAny_bind fin
  · cases e
theorem i_ix (kd : ∀ a, PySem.W.nsIn X.K mainGlobals "OBSTACLES" = some (some (.ref a)) → ∃ es n, KDict X.K X.w a es n) (hu : X.A.units + 1 < cLine) : IxR X (r2 X.K ixR) := by
  intro value slice pins s σ H v u v' u' Q I rv ru ⟨m, S, x, y, r, hx, hy, c⟩ hs
  obtain ⟨z, e, c9⟩ := lft_get (show Cont X.K (DV X.K) (lft (ixD x y S) S) m H Q from c)
  cases hy with
  | int i =>
    cases hx with
    | tup h d =>
      obtain ⟨w, h1, h2⟩ := atI_at d e
      exact ix_tup value slice pins s σ H _ _ v' u' Q I rv ru ⟨_, _, i, w, rfl, rfl, .inl (.inl h), h1, c9.done r h2⟩ hs
    | fls h d =>
      obtain ⟨w, h1, h2⟩ := atI_at d e
      exact ix_list value slice pins s σ H _ _ v' u' Q I rv ru ⟨_, _, i, w, rfl, rfl, h.sq, h1, c9.done r h2⟩ hs
    | ctu h d =>
      obtain ⟨w, h1, h2⟩ := atI_at d e
      exact ix_tup value slice pins s σ H _ _ v' u' Q I rv ru ⟨_, _, i, w, rfl, rfl, .inr h, h1, c9.done r h2⟩ hs
    | str t ht =>
      obtain ⟨k, e1, rfl⟩ := Option.map_eq_some_iff.mp (show (atI t.cps.toList i).map _ = some z from e)
      have hk : k ∈ t.cps.toList := by
        obtain ⟨j, _, e3⟩ := Option.bind_eq_some_iff.mp (show (ixN _ i).bind _ = some k from e1)
        exact List.mem_of_getElem? e3
      exact ix_str value slice pins s σ H _ _ v' u' Q I rv ru ⟨t, i, k, rfl, rfl, by rw [← max_line]; exact ht.1, e1, c9.done r (.str _ ⟨by show 1 ≤ sizeMax; decide, strOk_one ht.2 hk⟩)⟩ hs
    | ref hm =>
      simp only [ixD] at e
      split at e
      · rename_i ds e1
        obtain ⟨ws, w1, w2, _⟩ := lstOf r hm e1
        obtain ⟨w, h1, h2⟩ := atI_at w2 e
        exact ix_list value slice pins s σ H _ _ v' u' Q I rv ru ⟨_, _, i, w, rfl, rfl, .inl (.inl w1), h1, c9.done r h2⟩ hs
      · rename_i kvs e1
        cases rv
        exact ix_dic hu I ru r hm e1 (.int i) e c9 hs
      · cases e
    | _ => cases e
  | tup hk dk =>
    cases hx with
    | ref hm =>
      simp only [ixD] at e
      split at e
      · rename_i kvs e1
        cases rv
        exact ix_dic hu I ru r hm e1 (.tup hk dk) e c9 hs
      · cases e
    | _ => cases e
  | str z hz =>
    cases hx with
    | @cdc a kvs h =>
      obtain ⟨p, hp, rfl⟩ := Option.map_eq_some_iff.mp (show (kvs.find? fun p => p.1 == z).map (fun p => D.str p.2) = some _ from e)
      obtain ⟨es, n, D⟩ := kd a h.1
      obtain ⟨r9, h1, h2⟩ := h.2 z
      rw [hp] at h2
      obtain ⟨⟨t, h3⟩, h4⟩ := h2
      subst h3
      exact ix_kdict value slice pins s σ H _ _ v' u' Q I rv ru ⟨a, z, .str p.2, rfl, rfl, ⟨es, n, _, D.at_, D.lit, h1, ⟨t, rfl⟩⟩, c9.done r (.str _ h4)⟩ hs
    | ref hm =>
      simp only [ixD] at e
      split at e
      · rename_i kvs e1
        cases rv
        exact ix_dic hu I ru r hm e1 (.str z hz) e c9 hs
      · cases e
    | _ => cases e
  | _ => cases hx <;> cases e

/-! ### changes -/
theorem m_append {base : Nat} : MtR X "list.append" (rM X.K (methD base .append)) := by
  intro pins s σ H v vs v' us Q I rv rvs ⟨m, S, x, xs, r, hx, hxs, c⟩
  cases hx with
  | @ref a n hm =>
    match xs, hxs, c with
    | [], _, c => exact False.elim c
    | _ :: _ :: _, _, c => exact False.elim c
    | [y], hxs, c =>
      obtain ⟨w, rfl, hw⟩ := dvs1 hxs
      have c : Cont X.K (DV X.K) (match S[n]? with
        | some (.lst ys) => if okPut base n y = true ∧ ys.length < sizeMax then .ok .non (S.set n (.lst (ys ++ [y]))) else .bad
        | _ => .bad) m H Q := c
      cases e : S[n]? with
      | none => rw [e] at c; exact False.elim c
      | some o =>
        cases o with
        | dic _ => rw [e] at c; exact False.elim c
        | lst ys =>
          rw [e] at c
          dsimp only at c
          split at c
          · rename_i hz
            obtain ⟨ws, h1, h2, h3⟩ := lstOf r hm e
            have hl : ws.length < sizeLine := by rw [h2.length, ← max_line]; exact hz.2
            refine mt_append pins s σ H _ _ v' us Q I rv rvs ⟨a, ws, w, rfl, rfl, h1, hl, ?_⟩
            have hd : DVs X.K m H (ws ++ [w]) (ys ++ [y]) := h2.append (.cons hw .nil)
            exact c m _ .non (Gro.put r _ (List.mem_of_getElem? hm)) (r.put hm (by rw [List.length_append]; exact hl) hd) .non
          · exact False.elim c
  | _ => exact False.elim c
/-- list.index -/
theorem m_index (hu : X.A.units + 65 < cLine) {base : Nat} : MtR X "list.index" (rM X.K (methD base .index)) := by
  intro pins s σ H v vs v' us Q I rv rvs ⟨m, S, x, xs, r, hx, hxs, c⟩
  cases hx with
  | @ref a n hm =>
    match xs, hxs, c with
    | [], _, c => exact False.elim c
    | _ :: _ :: _, _, c => exact False.elim c
    | [y], hxs, c =>
      obtain ⟨w, rfl, hw⟩ := dvs1 hxs
      have c : Cont X.K (DV X.K) (match S[n]? with
        | some (.lst ys) => if y.pur && D.purs ys && decide (y.dep ≤ maxDep) && decide (D.deps ys + 1 ≤ maxDep) then (match ys.findIdx? fun z => z.eqv y with
            | some j => .ok (.int (j : Nat)) S
            | none => .bad) else .bad
        | _ => .bad) m H Q := c
      cases e : S[n]? with
      | none => rw [e] at c; exact False.elim c
      | some o =>
        cases o with
        | dic _ => rw [e] at c; exact False.elim c
        | lst ys =>
          rw [e] at c
          dsimp only at c
          split at c
          · rename_i hz
            simp only [Bool.and_eq_true, decide_eq_true_eq] at hz
            obtain ⟨⟨⟨hy, hys⟩, hd1⟩, hd2⟩ := hz
            split at c
            · rename_i j hj
              rw [List.findIdx?_eq_some_iff_getElem] at hj
              obtain ⟨hlt, h1, h2⟩ := hj
              obtain ⟨ws, w1, w2, w3⟩ := lstOf r hm e
              have pl : plain (.ref n) S = some (.fls ys) := by simp [plain, e, hys]
              obtain ⟨p1, p2, p3, _⟩ := plain_dp r (.ref hm) pl
              have py : plain y S = some y := by
                cases y with
                | tup zs => exact if_pos hy
                | fls _ => simp [D.pur] at hy
                | ref _ => simp [D.pur] at hy
                | ctu _ => simp [D.pur] at hy
                | cdc _ => simp [D.pur] at hy
                | _ => rfl
              obtain ⟨q1, q2, q3, _⟩ := plain_dp r hw py
              have ye : depP y = y.dep := by cases y <;> first | rfl | (simp [D.pur] at hy)
              have pur := (purs_iff ys).mp hys
              have el : ∀ k (hk : k < ys.length), (pds ys)[k]? = some (pd ys[k]) := fun k hk => by rw [pds_map, List.getElem?_map, List.getElem?_eq_getElem hk]; rfl
              refine mt_indexD hu pins s σ H _ _ v' us Q I rv rvs ⟨a, w, pd y, pds ys, j, pd ys[j], rfl, rfl, p1, q1, shaped_of p2 p3 hd2, shaped_of q2 q3 (by rw [ye]; exact hd1), el j hlt, ?_, fun k z hk ez => ?_, c.done r (.int _)⟩
              · rw [eqv_pd _ _ (pur _ (List.getElem_mem hlt)) hy]
                exact h1
              · have hk' : k < ys.length := by omega
                rw [el k hk'] at ez
                cases ez
                rw [eqv_pd _ _ (pur _ (List.getElem_mem hk')) hy]
                simpa using h2 k hk
            · exact False.elim c
          · exact False.elim c
  | _ => exact False.elim c
theorem ixN_seq {n k : Nat} {i : Int} (h : ixN n i = some k) : seqIndex? i n = some k ∧ -(n : Int) ≤ i ∧ i < n ∧ k < n := by
  unfold ixN at h
  split at h
  · rename_i h0
    split at h
    · rename_i h1
      cases h
      exact ⟨seqIndex_of h0 h1, by omega, h1, by omega⟩
    · cases h
  · rename_i h0
    split at h
    · rename_i h1
      cases h
      exact ⟨seqIndex_neg (by omega) h1, h1, by omega, by omega⟩
    · cases h
theorem m_pop {base : Nat} : MtR X "list.pop" (rM X.K (methD base .pop)) := by
  intro pins s σ H v vs v' us Q I rv rvs ⟨m, S, x, xs, r, hx, hxs, c⟩
  cases hx with
  | @ref a n hm =>
    match xs, hxs, c with
    | [], _, c => exact False.elim c
    | z :: _ :: _, _, c => exact False.elim (by cases z <;> exact c)
    | [y], hxs, c =>
      obtain ⟨w, rfl, hw⟩ := dvs1 hxs
      cases hw with
      | int i =>
        have c : Cont X.K (DV X.K) (match S[n]? with
          | some (.lst ys) => (match ixN ys.length i with
            | some j => (match ys[j]? with
              | some v => .ok v (S.set n (.lst (ys.eraseIdx j)))
              | none => .bad)
            | none => .bad)
          | _ => .bad) m H Q := c
        cases e : S[n]? with
        | none => rw [e] at c; exact False.elim c
        | some o =>
          cases o with
          | dic _ => rw [e] at c; exact False.elim c
          | lst ys =>
            rw [e] at c
            dsimp only at c
            cases e2 : ixN ys.length i with
            | none => rw [e2] at c; exact False.elim c
            | some j =>
              rw [e2] at c
              dsimp only at c
              cases e3 : ys[j]? with
              | none => rw [e3] at c; exact False.elim c
              | some d =>
                rw [e3] at c
                dsimp only at c
                obtain ⟨ws, h1, h2, h3⟩ := lstOf r hm e
                obtain ⟨g1, g2, g3, g4⟩ := ixN_seq e2
                obtain ⟨u, hu, hd⟩ := h2.get e3
                have hn := line63
                have hl := h2.length
                have G := Gro.put r (.lst (ws.eraseIdx j)) (List.mem_of_getElem? hm)
                refine mt_popAt pins s σ H _ _ v' us Q I rv rvs ⟨a, ws, i, j, u, rfl, rfl, h1, by omega, by omega, by rw [hl]; exact g1, hu, ?_⟩
                exact c m _ u G (r.put hm (by have := List.length_eraseIdx_le ws j; omega) (h2.eraseIdx j)) (hd.mono r G)
      | _ => exact False.elim c
  | _ => exact False.elim c
/-! ### slices -/
theorem sIx_eq (n d : Nat) : ∀ o : Option Int, PV.sIx n d o = HT.sIx n d o
  | none => rfl
  | some _ => rfl
theorem DVs.drop : ∀ {vs : List V} {ds : List D} (i : Nat), DVs K m H vs ds → DVs K m H (vs.drop i) (ds.drop i)
  | _, _, 0, h => h
  | _, _, _ + 1, .nil => .nil
  | _, _, i + 1, .cons _ t => DVs.drop i t
theorem DVs.take : ∀ {vs : List V} {ds : List D} (i : Nat), DVs K m H vs ds → DVs K m H (vs.take i) (ds.take i)
  | _, _, 0, _ => by rw [List.take_zero, List.take_zero]; exact .nil
  | _, _, _ + 1, .nil => .nil
  | _, _, i + 1, .cons h t => .cons h (DVs.take i t)
theorem DVs.cut {vs : List V} {ds : List D} (h : DVs K m H vs ds) (lo hi : Option Int) : DVs K m H (cutV vs lo hi) (cutD ds lo hi) := by
  unfold cutV cutD
  rw [sIx_eq, sIx_eq, h.length]
  exact (h.drop _).take _
def slR (K : PySem.W.Frag) : V → Option Int → Option Int → Hp → VK → Prop := fun v lo hi H Q => ∃ m S x, Rl K m S H ∧ DV K m H v x ∧ Cont K (DV K) (sliceD x lo hi S) m H Q
theorem sl_any : SlR X (slR X.K) := by
  intro pins s σ H v v' vl vu lo hi sl Q I rv hs pl pu ⟨m, S, x, r, hx, c⟩
  by_cases ht : ∃ xs, x = .tup xs
  · obtain ⟨xs, rfl⟩ := ht
    cases hx with
    | tup hq hd =>
      have c : Cont X.K (DV X.K) (.ok (.tup (cutD xs lo hi)) S) m H Q := c
      have hl := r.lenT hq
      have hc := hd.cut lo hi
      refine sl_tupA pins s σ H _ v' vl vu lo hi sl Q I rv hs pl pu ⟨_, _, rfl, .inl (.inl hq), fun hw => ?_, fun _ => newTup r hc (Nat.le_trans (cutV_length _ _ _) hl) c⟩
      refine c.done r (.tup hq ?_)
      have e : cutD xs lo hi = xs := by
        rw [← sIx_eq, ← sIx_eq, hd.length] at hw
        unfold cutD
        rw [hw.1, hw.2, List.drop_zero, Nat.sub_zero, List.take_length]
      rw [e]
      exact hd
  by_cases hst : ∃ z, x = .str z
  · obtain ⟨z, rfl⟩ := hst
    cases hx with
    | str z hz =>
      have c : Cont X.K (DV X.K) (.ok (.str ⟨(cutC z.cps.toList lo hi).toArray⟩) S) m H Q := c
      have e : cutS z lo hi = ⟨(cutC z.cps.toList lo hi).toArray⟩ := by
        unfold cutS cutC
        rw [sIx_eq, sIx_eq, Array.length_toList]
        rfl
      have hl : (⟨(cutC z.cps.toList lo hi).toArray⟩ : Str).length ≤ z.length := by rw [← e]; exact cutS_length z lo hi
      exact sl_str pins s σ H _ v' vl vu lo hi sl Q I rv hs pl pu ⟨z, rfl, by rw [← max_line]; exact hz.1, by
        rw [e]
        exact c.done r (.str _ ⟨Nat.le_trans hl hz.1, strOk_sub hz.2 fun c hc => List.mem_of_mem_drop (List.mem_of_mem_take hc)⟩)⟩
  · have c : Cont X.K (DV X.K) ((lft (lstItems x S) S).bind fun ys S => alloc (.lst (cutD ys lo hi)) S) m H Q := by
      cases x <;> first | exact c | exact absurd ⟨_, rfl⟩ ht | exact absurd ⟨_, rfl⟩ hst
    cases e : lstItems x S with
    | none => rw [e] at c; exact False.elim c
    | some ys =>
      rw [e, lft_some, R.bind_ok] at c
      obtain ⟨a, vs, rfl, hd, hq⟩ := lst_at r hx e
      have hl : vs.length ≤ sizeLine := by
        obtain ⟨its, rr, _, hz⟩ := I.list hq
        exact hz
      exact sl_list pins s σ H _ v' vl vu lo hi sl Q I rv hs pl pu ⟨a, vs, rfl, hq, newLst r (hd.cut lo hi) (Nat.le_trans (cutV_length _ _ _) hl) c⟩
def setR (base : Nat) (K : PySem.W.Frag) : TSet := fun o i v H Q => ∃ m S x y z, Rl K m S H ∧ DV K m H o x ∧ DV K m H i y ∧ DV K m H v z ∧ Cont K (fun _ _ (_ _ : Unit) => True) (setIxD base x y z S) m H (fun _ H' => Q H')
theorem set_dic (hu : X.A.units + 1 < cLine) {base : Nat} {pins : List (Addr × Obj)} {s : Shared} {σ : Sg} {H : Hp} {a : Addr} {n : Nat} {i v : V} {i' v' : Value} {y z : D} {kvs : List (D × D)} {Q : Hp → Prop} (I : Inv X pins σ H s) (ri : RelV i i') (rv : RelV v v') (r : Rl X.K m S H)
    (hm : m[n]? = some a) (e1 : S[n]? = some (.dic kvs)) (hy : DV X.K m H i y) (hz : DV X.K m H v z) (c : Cont X.K (fun _ _ (_ _ : Unit) => True) (dputD base n kvs y z S) m H (fun _ H' => Q H')) :
    wpAny (model X.prog X.w) X.A (setItem (.ref a) i' v') (fun _ s' => ∃ H', Inv X pins σ H' s' ∧ Q H') X.xe s := by
  unfold dputD at c
  split at c
  · rename_i hk
    obtain ⟨H2, H3, I2, dp, g, r3⟩ := dic_put I r hm e1 hy hz hk.1 (by rw [← max_line]; exact hk.2.2)
    exact d_setItem hu I2 dp ri rv fun s' I' => ⟨H3, I', c m H3 () g r3 trivial⟩
  · exact False.elim c
theorem s_set (hu : X.A.units + 1 < cLine) {base : Nat} : PSet X (setR base X.K) := by
  intro pins s σ H o i v o' i' v' Q I ro ri rv ⟨m, S, x, y, z, r, hx, hy, hz, c⟩
  cases hx with
  | @ref a n hm =>
    cases hy with
    | int k =>
      have c : Cont X.K (fun _ _ (_ _ : Unit) => True) (match S[n]? with
        | some (.lst ys) => (match ixN ys.length k with
          | some j => if okPut base n z = true then .ok () (S.set n (.lst (ys.set j z))) else .bad
          | none => .bad)
        | some (.dic kvs) => dputD base n kvs (.int k) z S
        | _ => .bad) m H (fun _ H' => Q H') := c
      cases e : S[n]? with
      | none => rw [e] at c; exact False.elim c
      | some ob =>
        cases ob with
        | dic kvs =>
          rw [e] at c
          cases ro
          exact set_dic hu I ri rv r hm e (.int k) hz c
        | lst ys =>
          rw [e] at c
          dsimp only at c
          cases e2 : ixN ys.length k with
          | none => rw [e2] at c; exact False.elim c
          | some j =>
            rw [e2] at c
            dsimp only at c
            split at c
            · obtain ⟨ws, h1, h2, h3⟩ := lstOf r hm e
              refine set_list pins s σ H _ _ _ o' i' v' Q I ro ri rv ⟨a, ws, k, j, rfl, rfl, h1, by rw [h2.length]; exact e2, ?_⟩
              exact c m _ () (Gro.put r _ (List.mem_of_getElem? hm)) (r.put hm (by rw [List.length_set]; exact h3) (h2.set j hz)) trivial
            · exact False.elim c
    | @tup p ps ks hk dk =>
      have c : Cont X.K (fun _ _ (_ _ : Unit) => True) (match S[n]? with
        | some (.dic kvs) => dputD base n kvs (.tup ks) z S
        | _ => .bad) m H (fun _ H' => Q H') := c
      cases e : S[n]? with
      | none => rw [e] at c; exact False.elim c
      | some ob =>
        cases ob with
        | lst _ => rw [e] at c; exact False.elim c
        | dic kvs =>
          rw [e] at c
          cases ro
          exact set_dic hu I ri rv r hm e (.tup hk dk) hz c
    | _ => exact False.elim c
  | _ => cases hy <;> exact False.elim c

/-! ### truth, minus, None -/
theorem t_truth : TruR X (r1B X.K fun x S => lft (truthD x S) S) := by
  intro pins s σ H v v' Q I rv ⟨m, S, x, r, hx, c⟩
  obtain ⟨b, e, c⟩ := lft_get (show Cont X.K BR (lft (truthD x S) S) m H Q from c)
  refine tru_ok pins s σ H v v' Q I rv ⟨b, ?_, c.done r rfl⟩
  cases hx with
  | non => cases e; rfl
  | bl _ => cases e; rfl
  | int _ => cases e; rfl
  | str z hz =>
    cases e
    refine ⟨by rw [← max_line]; exact hz.1, ?_⟩
    rw [Bool.eq_iff_iff]; simp
  | tup hs hd =>
    cases e
    refine .inr (.inl ⟨_, .inl (.inl hs), ?_⟩)
    cases hd <;> rfl
  | _ => cases e
def negR (x : D) (S : Sto) : R D := match x with
  | .int i => .ok (.int (-i)) S
  | _ => .bad
theorem u_neg : UnR X (unaryOp .USub) (r1 X.K negR) := by
  intro pins s σ H v v' Q I rv ⟨m, S, x, r, hx, c⟩
  cases hx with
  | int i => exact un_neg pins s σ H _ v' Q I rv ⟨i, rfl, Cont.done (show Cont X.K (DV X.K) (.ok (.int (-i)) S) m H Q from c) r (.int _)⟩
  | _ => exact False.elim c
end
end PV

namespace PV
open PySem PySem.Spec PyProof.Rows L2
/-! ### from the text to the program form -/
structure CS where
  fns : List Str
  consts : List Str
def vis (sc : Scope) (x : Str) : Bool := match sc.names.lookup x with
  | some .local => true
  | some .cell => true
  | some .free => true
  | _ => false
def glb (sc : Scope) (x : Str) : Bool := match sc.names.lookup x with
  | some .globalImplicit => true
  | _ => false
def okName (x : Str) : Bool := decide (x ≠ "__debug__") && decide (x ≠ "__classdict__") && decide (x ≠ "__name__")
def ixOf (N : List Str) (x : Str) : Option Nat := N.findIdx? fun y => decide (y = x)
theorem ixOf_get {N : List Str} {x : Str} {i : Nat} (h : ixOf N x = some i) : N[i]? = some x := by
  unfold ixOf at h
  rw [List.findIdx?_eq_some_iff_getElem] at h
  obtain ⟨hl, h1, _⟩ := h
  rw [List.getElem?_eq_getElem hl]
  exact congrArg some (of_decide_eq_true h1)
def cL (f : Expr → Option E) : List Expr → Option E
  | [] => some .nil
  | e :: es => (f e).bind fun a => (cL f es).map fun b => .cons a b
def cBool (mk : E → E → E) (f : Expr → Option E) : List Expr → Option E
  | [] => none
  | [e] => f e
  | e :: es => (f e).bind fun a => (cBool mk f es).map fun b => mk a b
def cBop : Operator → Option Bop
  | .Add => some .add | .Sub => some .sub | .Mult => some .mul | .FloorDiv => some .fdiv | .Mod => some .mod | .Pow => some .pow | .LShift => some .shl | .RShift => some .shr | .BitOr => some .bor | .BitAnd => some .band
  | _ => none
def cCop : CmpOp → Option Cop
  | .Eq => some .eq | .NotEq => some .ne | .Lt => some .lt | .LtE => some .le | .Gt => some .gt | .GtE => some .ge | .In => some .isin | .NotIn => some .notin
  | _ => none
def isSet : Expr → Bool
  | .Set _ _ _ => true
  | _ => false
def isTuple : Expr → Bool
  | .Tuple _ _ _ => true
  | _ => false
def isSlice : Expr → Bool
  | .Slice _ _ _ _ => true
  | _ => false
def isNone : Expr → Bool
  | .Constant .none _ _ => true
  | _ => false
/-- the built-ins by their names -/
def biName : List (Str × Bi) := [("len", .len), ("abs", .abs), ("all", .all), ("any", .any), ("sum", .sum), ("sorted", .sorted), ("max", .max), ("min", .min), ("ord", .ord)]
def tyName : List (Str × Ty) := [("int", .int), ("bool", .bool), ("tuple", .tuple), ("str", .str), ("list", .list)]
def bltNames : List Str := ["len", "abs", "all", "any", "sum", "sorted", "max", "min", "int", "bool", "tuple", "str", "list", "isinstance", "range", "zip", "set", "enumerate", "reversed", "ord"]
def cP (f : Expr → Option E) : Option Expr → Option E
  | none => some .nil
  | some e => (f e).map fun x => .cons x .nil
/-- sorted(set(e)) -/
def setArg (sc : Scope) (f : Str) : List Expr → Option Expr
  | [.Call (.Name s _) [e] [] _] => if f = "sorted" ∧ s = "set" ∧ glb sc s = true then some e else none
  | _ => none
/-- tuple(reversed(e)) -/
def revArg (sc : Scope) (f : Str) : List Expr → Option Expr
  | [.Call (.Name s _) [e] [] _] => if f = "tuple" ∧ s = "reversed" ∧ glb sc s = true then some e else none
  | _ => none
/-- methods of a list, of one argument -/
def mtName : List (Str × Mt) := [("append", .append), ("pop", .pop), ("index", .index)]
/-- methods of a text, of one argument -/
def smName : List (Str × Bi) := [("find", .find), ("join", .join)]
/-- what is walked (z: zip too) -/
def cI (w z : Bool) (sc : Scope) (f : Expr → Option E) (e : Expr) : Option E :=
  match e with
  | .Call (.Name x _) args [] _ =>
    if glb sc x && decide (x = "range") then (match args with
      | [a] => (f a).map .range1
      | [a, b] => (f a).bind fun x => (f b).map fun y => .range2 x y
      | [a, b, .UnaryOp .USub (.Constant (.int 1) _ _) _] => if w = true then (f a).bind fun x => (f b).map fun y => .rangeDn x y else none
      | _ => none)
    else if z && glb sc x && decide (x = "zip") then (match args with
      | [a, b] => (f a).bind fun x => (f b).map fun y => .zip x y
      | _ => none)
    else f e
  | _ => f e
def locOk (sc : Scope) (fn : Str → Bool) (x : Str) : Bool := match sc.names.lookup x with
  | some .local => true
  | some .cell => fn x
  | _ => false
def cT1 (sc : Scope) (N : List Str) (fn : Str → Bool) (e : Expr) : Option Nat :=
  match e with
  | .Name x _ => if locOk sc fn x = true then ixOf N x else none
  | _ => none
def cTs (sc : Scope) (N : List Str) (fn : Str → Bool) : List Expr → Option (List Nat)
  | [] => some []
  | e :: es => (cT1 sc N fn e).bind fun i => (cTs sc N fn es).map fun is => i :: is
def cTg (sc : Scope) (N : List Str) (fn : Str → Bool) (e : Expr) : Option (List Nat) :=
  match e with
  | .Name x p => (cT1 sc N fn (.Name x p)).map fun i => [i]
  | .Tuple es _ _ => if 2 ≤ es.length then cTs sc N fn es else none
  | _ => none
def tgNames : Expr → List Str
  | .Name x _ => [x]
  | .Tuple es _ _ => es.filterMap fun
    | .Name x _ => some x
    | _ => none
  | _ => []
def relSc (scope sc : Scope) : Scope :=
  { scope with names := scope.names.map fun (n, k) => if (k == .free && sc.kind == .function && sc.names.lookup n == some .cell) then (n, .cell) else (n, k) }
def ownOf (N : List Str) (tg : Expr) : List (Str × Nat) := (tgNames tg).filterMap fun x => (ixOf N x).map fun i => (x, i)
def strFit (s : Str) : Bool := decide (s.length ≤ sizeMax) && PyData.strOk s
/-- a display of texts by texts -/
def dispKV : List (Option Expr) → List Expr → Option (List (Str × Str))
  | [], [] => some []
  | some (.Constant (.str k) _ _) :: ks, .Constant (.str v) _ _ :: vs => if strFit k = true ∧ strFit v = true then (dispKV ks vs).map ((k, v) :: ·) else none
  | _, _ => none
def dispOf (keys : List (Option Expr)) (values : List Expr) : Option (List (Str × Str)) :=
  (dispKV keys values).bind fun kvs => if kvs.length ≤ 15 ∧ (kvs.map (·.1)).Nodup then some kvs else none
def cE : Nat → CS → Scope → List Str → Expr → Option E
  | 0, _, _, _, _ => none
  | n + 1, C, sc, N, e => match e with
    | .Name x _ => if okName x = true then (if vis sc x = true then (ixOf N x).map .var else if glb sc x = true then (ixOf C.consts x).map .glob else none) else none
    | .Constant c _ _ => (match c with
      | .int i => some (.num i)
      | .bool b => some (.cb b)
      | .none => some .cn
      | .str s => if strFit s = true then some (.cs s) else none
      | _ => none)
    | .Tuple es _ _ => if es.length ≤ 1000 then (cL (cE n C sc N) es).map .tup else none
    | .Dict [] [] _ => some .dict
    | .Dict keys values _ => (dispOf keys values).map .disp
    | .List es _ => if es.length ≤ 1000 then (cL (cE n C sc N) es).map .lst else none
    | .BinOp a op b _ => (cBop op).bind fun o => (cE n C sc N a).bind fun x => (cE n C sc N b).map fun y => .bin o x y
    | .UnaryOp op a _ => (match op with
      | .Not => (cE n C sc N a).map .not
      | .USub => (cE n C sc N a).map .neg
      | _ => none)
    | .BoolOp op vs _ => (match op with
      | .And => cBool .and (cE n C sc N) vs
      | .Or => cBool .or (cE n C sc N) vs)
    | .Compare a ops bs _ => (match ops, bs with
      | [op], [b] => if isSet b = true then none else (match op with
        | .Is => if isNone b = true then (cE n C sc N a).map .isN else none
        | .IsNot => if isNone b = true then (cE n C sc N a).map .notN else none
        | op => (cCop op).bind fun o => (cE n C sc N a).bind fun x => (cE n C sc N b).map fun y => .cmp o x y)
      | [o1, o2], [b, c] => if isSet c = true then none else (cCop o1).bind fun p => (cCop o2).bind fun q => (cE n C sc N a).bind fun x => (cE n C sc N b).bind fun y => (cE n C sc N c).map fun z => .chain p q x y z
      | _, _ => none)
    | .IfExp t a b _ => (cE n C sc N t).bind fun x => (cE n C sc N a).bind fun y => (cE n C sc N b).map fun z => .ite x y z
    | .Call (.Name f _) args [] _ => if okName f = true ∧ glb sc f = true then
        (match setArg sc f args with
        | some e => (cE n C sc N e).map .sset
        | none => match revArg sc f args with
        | some e => (cE n C sc N e).map .revT
        | none => match ixOf C.fns f with
        | some i => (cL (cE n C sc N) args).map fun es => .call i es
        | none => (match biName.lookup f, args with
          | some b, [x] => (cE n C sc N x).map fun x => .bi b (.cons x .nil)
          | some b, [x, y] => (cE n C sc N x).bind fun x => (cE n C sc N y).map fun y => .bi b (.cons x (.cons y .nil))
          | some b, [x, y, z] => (cE n C sc N x).bind fun x => (cE n C sc N y).bind fun y => (cE n C sc N z).map fun z => .bi b (.cons x (.cons y (.cons z .nil)))
          | none, [x] => if f = "int" then (cE n C sc N x).map fun x => .bi .int (.cons x .nil)
              else if f = "list" then (cI false false sc (cE n C sc N) x).map .listOf
              else if f = "tuple" then (cI false false sc (cE n C sc N) x).map .tupOf
              else none
          | none, [x, .Name t _] => if f = "isinstance" ∧ glb sc t = true ∧ okName t = true then (tyName.lookup t).bind fun ty => (cE n C sc N x).map fun x => .isi x ty else none
          | _, _ => none))
      else none
    | .Call (.Attribute (.Name o p) m ap) [a] [] cp => if (ap.endLine == cp.line) = true then (match smName.lookup m with
        | some b => (cE n C sc N (.Name o p)).bind fun x => (cE n C sc N a).map fun y => .bi b (.cons x (.cons y .nil))
        | none => (mtName.lookup m).bind fun mt => (cE n C sc N (.Name o p)).bind fun x => (cE n C sc N a).map fun y => .meth mt x (.cons y .nil)) else none
    | .Call (.Attribute (.Constant (.str z) kd p) m ap) [a] [] cp => if (ap.endLine == cp.line) = true then (smName.lookup m).bind fun b => (cE n C sc N (.Constant (.str z) kd p)).bind fun x => (cE n C sc N a).map fun y => .bi b (.cons x (.cons y .nil)) else none
    | .Subscript v (.Slice lo hi none _) _ => (cE n C sc N v).bind fun x => (cP (cE n C sc N) lo).bind fun l => (cP (cE n C sc N) hi).map fun h => .slice x l h
    | .Subscript v s _ => if isSlice s = true then none else (cE n C sc N v).bind fun x => (cE n C sc N s).map fun y => .ix x y
    | .ListComp elt [⟨tg, it, ifs, ia⟩] scope _ =>
      if ia = 0 ∧ blkC N sc scope (ownOf N tg) = true ∧ isSet it = false then
        (cI true (isTuple tg) sc (cE n C sc N) it).bind fun i => (cTg (relSc scope sc) N (fun x => scope.names.lookup x == some .cell) tg).bind fun t => if t = (ownOf N tg).map (·.2) then
          (match ifs with
          | [] => (cE n C (relSc scope sc) N elt).map fun e => .comp t i .nil e
          | [k] => (cE n C (relSc scope sc) N k).bind fun k => (cE n C (relSc scope sc) N elt).map fun e => .comp t i k e
          | _ => none) else none
      else none
    | .ListComp elt [⟨tg, it, [], ia⟩, ⟨tg1, it1, ifs1, ia1⟩] scope _ =>
      if (ia = 0 ∧ ia1 = 0) ∧ blkC N sc scope (ownOf N tg ++ ownOf N tg1) = true ∧ isSet it = false ∧ isSet it1 = false then
        (cI true (isTuple tg) sc (cE n C sc N) it).bind fun i => (cTg (relSc scope sc) N (fun x => scope.names.lookup x == some .cell) tg).bind fun t =>
        (cI true (isTuple tg1) (relSc scope sc) (cE n C (relSc scope sc) N) it1).bind fun i2 => (cTg (relSc scope sc) N (fun x => scope.names.lookup x == some .cell) tg1).bind fun t2 =>
        if t = (ownOf N tg).map (·.2) ∧ t2 = (ownOf N tg1).map (·.2) then
          (match ifs1 with
          | [] => (cE n C (relSc scope sc) N elt).map fun e => .comp2 t i t2 i2 .nil e
          | [k] => (cE n C (relSc scope sc) N k).bind fun k => (cE n C (relSc scope sc) N elt).map fun e => .comp2 t i t2 i2 k e
          | _ => none) else none
      else none
    | _ => none
/-- what stands as an argument is no star -/
theorem noStar {n : Nat} {C : CS} {sc : Scope} {N : List Str} {e : Expr} {ir : E} (h : cE n C sc N e = some ir) (es : List Expr) (env : PySem.Env) : starEach (e :: es) env = (false, PySem.eval e env) :: starEach es env := by
  cases n with
  | zero => simp [cE] at h
  | succ n => cases e <;> first | rfl | (simp [cE] at h)
theorem noStarI {n : Nat} {C : CS} {sc : Scope} {N : List Str} {e : Expr} {ir : E} {w z : Bool} (h : cI w z sc (cE n C sc N) e = some ir) (es : List Expr) (env : PySem.Env) : starEach (e :: es) env = (false, PySem.eval e env) :: starEach es env := by
  unfold cI at h
  split at h
  · rfl
  · exact noStar h es env
end PV

namespace PV
open PySem PySem.Spec PyProof.Rows L2
/-! ### readings of the forms -/
section
variable {K : PySem.W.Frag} {X : Cx} {m : List Addr} {H : Hp} {S : Sto} {σ : Sg} {ρ : Env}
theorem PE.wk {e : Expr} {t t' : TE} (h : PE X e t) (f : ∀ σ H Q, t' σ H Q → t σ H Q) : PE X e t' := ⟨fun a b c d Q I q => h.run a b c d Q I (f _ _ _ q)⟩
theorem PT.wk {e : Expr} {t t' : TT} (h : PT X e t) (f : ∀ σ H Q, t' σ H Q → t σ H Q) : PT X e t' := ⟨fun a b c d Q I q => h.run a b c d Q I (f _ _ _ q)⟩
theorem PA.wk {e : List Expr} {t t' : TA} (h : PA X e t) (f : ∀ σ H Q, t' σ H Q → t σ H Q) : PA X e t' := ⟨fun o a b c d Q I q => h.run o a b c d Q I (f _ _ _ q)⟩
theorem PW.wk {e : Expr} {t t' : TT} (h : PW X e t) (f : ∀ σ H Q, t' σ H Q → t σ H Q) : PW X e t' := ⟨fun w a b c d Q I q => h.run w a b c d Q I (f _ _ _ q)⟩

/-- one value, then more -/
theorem rd1 {β γ : Type} {RV : List Addr → Hp → β → γ → Prop} {f : Env → Sto → R D} {g : D → Env → Sto → R γ} {Q : β → Hp → Prop} (r : Rl K m S H) (e : EnvR K m H σ ρ) (c : Cont K RV ((f ρ S).bind fun x S => g x ρ S) m H Q) :
    tEv K f σ H fun v H1 => ∃ m1 S1 x, Rl K m1 S1 H1 ∧ EnvR K m1 H1 σ ρ ∧ DV K m1 H1 v x ∧ Cont K RV (g x ρ S1) m1 H1 Q :=
  ⟨m, S, ρ, r, e, (Cont.bind (RV := DV K) c).imp fun v H1 ⟨x, m1, S1, G, r1, h1, c1⟩ => ⟨m1, S1, x, r1, e.mono r G, h1, c1⟩⟩
theorem rd2 {β γ : Type} {RV : List Addr → Hp → β → γ → Prop} {f f' : Env → Sto → R D} {g : D → D → Sto → R γ} {Q : β → Hp → Prop} (r : Rl K m S H) (e : EnvR K m H σ ρ) (c : Cont K RV ((f ρ S).bind fun x S => (f' ρ S).bind fun y S => g x y S) m H Q) :
    tEv K f σ H fun v H1 => tEv K f' σ H1 fun u H2 => ∃ m2 S2 x y, Rl K m2 S2 H2 ∧ DV K m2 H2 v x ∧ DV K m2 H2 u y ∧ Cont K RV (g x y S2) m2 H2 Q :=
  ⟨m, S, ρ, r, e, (Cont.bind (RV := DV K) c).imp fun v H1 ⟨x, m1, S1, G, r1, h1, c1⟩ => ⟨m1, S1, ρ, r1, e.mono r G, (Cont.bind (RV := DV K) c1).imp fun u H2 ⟨y, m2, S2, G2, r2, h2, c2⟩ => ⟨m2, S2, x, y, r2, h1.mono r1 G2, h2, c2⟩⟩⟩
theorem rdT {β γ : Type} {RV : List Addr → Hp → β → γ → Prop} {f : Env → Sto → R Bool} {g : Bool → Env → Sto → R γ} {Q : β → Hp → Prop} (r : Rl K m S H) (e : EnvR K m H σ ρ) (c : Cont K RV ((f ρ S).bind fun x S => g x ρ S) m H Q) :
    tTe K f σ H fun b H1 => ∃ m1 S1, Rl K m1 S1 H1 ∧ EnvR K m1 H1 σ ρ ∧ Cont K RV (g b ρ S1) m1 H1 Q :=
  ⟨m, S, ρ, r, e, (Cont.bind (RV := BR) c).imp fun v H1 ⟨x, m1, S1, G, r1, h1, c1⟩ => by cases h1; exact ⟨m1, S1, r1, e.mono r G, c1⟩⟩
theorem rdS {β γ : Type} {RV : List Addr → Hp → β → γ → Prop} {f : Env → Sto → R (List D)} {g : List D → Env → Sto → R γ} {Q : β → Hp → Prop} (r : Rl K m S H) (e : EnvR K m H σ ρ) (c : Cont K RV ((f ρ S).bind fun x S => g x ρ S) m H Q) :
    tEs K f σ H fun vs H1 => ∃ m1 S1 xs, Rl K m1 S1 H1 ∧ EnvR K m1 H1 σ ρ ∧ DVs K m1 H1 vs xs ∧ Cont K RV (g xs ρ S1) m1 H1 Q :=
  ⟨m, S, ρ, r, e, (Cont.bind (RV := DVs K) c).imp fun v H1 ⟨x, m1, S1, G, r1, h1, c1⟩ => ⟨m1, S1, x, r1, e.mono r G, h1, c1⟩⟩
theorem tEv.mono {f : Env → Sto → R D} {Q Q' : VK} (h : tEv K f σ H Q) (w : ∀ v H, Q v H → Q' v H) : tEv K f σ H Q' := let ⟨m, S, ρ, r, e, c⟩ := h; ⟨m, S, ρ, r, e, c.imp w⟩

/-- a value that is a bool, as a test -/
theorem asTest {r : R D} {Q : Bool → Hp → Prop} (hb : ∀ d S', r = .ok d S' → ∃ b, d = .bl b) (c : Cont K BR (r.bind fun x S => lft (truthD x S) S) m H Q) : Cont K (DV K) r m H fun v H' => ∃ k, v = .bl k ∧ Q k H' := by
  cases r with
  | ok d S' =>
    obtain ⟨b, rfl⟩ := hb d S' rfl
    intro m' H' v G r' hv
    cases hv
    exact ⟨b, rfl, (show Cont K BR (.ok b S') m H Q from c) m' H' b G r' rfl⟩
  | exc _ _ _ => exact c
  | bad => exact c
theorem truth_get {v : V} {x : D} {b : Bool} (r : Rl K m S H) (hx : DV K m H v x) (e : truthD x S = some b) : TruV K v H b := by
  cases hx with
  | non => cases e; rfl
  | bl _ => cases e; rfl
  | int _ => cases e; rfl
  | str z hz =>
    cases e
    refine ⟨by rw [← max_line]; exact hz.1, ?_⟩
    rw [Bool.eq_iff_iff]; simp
  | tup hs hd =>
    cases e
    refine .inr (.inl ⟨_, .inl (.inl hs), ?_⟩)
    cases hd <;> rfl
  | _ => cases e
theorem pt_of {e : Expr} {f : Env → Sto → R D} (h : PE X e (tEv X.K f)) (he : ∀ whole, isTrue e X.env whole = (do let v ← whole; standAt e.pos; holding [v] (truthy v))) :
    PT X e (tTe X.K fun ρ S => (f ρ S).bind fun x S => lft (truthD x S) S) := by
  refine PT.wk (pt_truth h he) fun σ H Q ⟨m, S, ρ, r, en, c⟩ => (rd1 (RV := BR) (g := fun x _ S => lft (truthD x S) S) r en c).mono fun v H1 ⟨m1, S1, x, r1, _, hv, c1⟩ => ?_
  obtain ⟨b, e, c2⟩ := lft_get c1
  exact ⟨b, truth_get r1 hv e, c2.done r1 rfl⟩

theorem cmpR_bl {op : Cop} {x y : D} {S : Sto} {d : D} {S' : Sto} (h : cmpR op x y S = .ok d S') : ∃ b, d = .bl b := by
  unfold cmpR at h
  cases e : cmpD op x y S with
  | none => rw [e] at h; cases h
  | some t => rw [e] at h; cases h; exact ⟨t, rfl⟩
theorem o_cmp {op : CmpOp} {o : Cop} (kd : ∀ a, PySem.W.nsIn X.K mainGlobals "OBSTACLES" = some (some (.ref a)) → ∃ es n, KDict X.K X.w a es n) (h : cCop op = some o) (hu : X.A.units + 64 < cLine) : OpR X (compareOp op) (r2 X.K (cmpR o)) := by
  cases op <;> simp only [cCop, Option.some.injEq, reduceCtorEq] at h <;> subst h
  · exact o_eq hu
  · exact o_ne hu
  · exact o_lt hu
  · exact o_le hu
  · exact o_gt hu
  · exact o_ge hu
  · exact o_in kd hu
  · exact o_notin kd hu
theorem o_bop {op : Operator} {o : Bop} (h : cBop op = some o) : OpR X (binaryOp op) (r2 X.K (binD o)) := by
  cases op <;> simp only [cBop, Option.some.injEq, reduceCtorEq] at h <;> subst h
  · exact o_add
  · exact o_sub
  · exact o_mul
  · exact o_mod
  · exact o_pow
  · exact o_shl
  · exact o_shr
  · exact o_bor
  · exact o_band
  · exact o_fdiv
theorem noMark {e : Expr} (op : CmpOp) (h : isSet e = false) : behindInMarks op e = false := by
  cases e <;> first | rfl | (simp [isSet] at h)
theorem noMark2 {b c : Expr} (o1 o2 : CmpOp) (h : isSet c = false) : lastMarks [o1, o2] [b, c] = false := noMark o2 h
theorem notSet {n : Nat} {C : CS} {sc : Scope} {N : List Str} {e : Expr} {ir : E} (h : cE n C sc N e = some ir) : isSet e = false := by
  cases n with
  | zero => simp [cE] at h
  | succ n => cases e <;> first | rfl | (simp [cE] at h)
theorem foldedNone {e : Expr} (h : isSet e = false) (env : PySem.Env) (x : Value) : foldedSetIterable e env x = pure x := by
  cases e <;> first | rfl | (simp [isSet] at h)
end

/-! ### what the context must bear -/
structure Gd (C : CS) (c : Ctx) (n : Nat) (fnb : Str → Bool) (X : Cx) : Prop where
  calm : X.calm = true
  nd : X.N.Nodup
  room : Room n X.A
  fnb : ∀ x, X.fn x = fnb x
  pass : PassesOwn (model X.prog X.w) X.A X.env X.xe
  kd : ∀ a, PySem.W.nsIn X.K mainGlobals "OBSTACLES" = some (some (.ref a)) → ∃ es n, KDict X.K X.w a es n
  blt : ∀ x ∈ bltNames, X.mg x = none
  fns : ∀ (i : Nat) (x : Str), C.fns[i]? = some x → ∃ f fd ps, X.mg x = some (.ref f) ∧ PySem.W.keepIn X.K (.ref f) = true ∧ Binds X.K fd ps [] ∧ FnOk X.prog X.w X.K X.mg X.base CX0 n f fd ps fun vs H Q _ => rN X.K (c.call i) vs H Q
  consts : ∀ (k : Nat) (x : Str), C.consts[k]? = some x → ∃ u v d, X.mg x = some u ∧ RelV v u ∧ c.glob k = some d ∧ ∀ m H, DV X.K m H v d
theorem Gd.hu {C : CS} {c : Ctx} {n : Nat} {fnb : Str → Bool} {X : Cx} (g : Gd C c n fnb X) : X.A.units + 64 < cLine := g.room.units
theorem Gd.hu70 {C : CS} {c : Ctx} {n : Nat} {fnb : Str → Bool} {X : Cx} (g : Gd C c n fnb X) : X.A.units + 70 < cLine := by have := g.room.un; omega
theorem Gd.blk {C : CS} {c : Ctx} {n : Nat} {fnb : Str → Bool} {X : Cx} (g : Gd C c n fnb X) (s : Shared) (H : Hp) (scope : Scope) (A : Addr) (cl : List (Str × Addr)) (fp : List Addr) :
    Gd C c n (fun x => scope.names.lookup x == some .cell) (X.blk s H scope (compEnvC scope cl A X.env) fp) :=
  ⟨g.calm, g.nd, g.room, fun _ => rfl, PassesOwn.never, g.kd, g.blt, g.fns, g.consts⟩
end PV

namespace PV
open PySem PySem.Spec PyProof.Rows L2
/-! ### what is walked -/
/-- the iterator J yields the items of s, from the state on that (m, H) tells -/
def SR (K : PySem.W.Frag) (m : List Addr) (H : Hp) (J : It) (s : Src) : Prop :=
  s.items.length ≤ sizeLine ∧ ∀ (i : Nat) (m1 : List Addr) (S1 : Sto) (H1 : Hp), GroW m m1 H H1 → Rl K m1 S1 H1 → Src.good s.watch S1 →
    (s.items.length ≤ i → J.stop i H1) ∧ ∀ d, s.items[i]? = some d → J.go i H1 ∧ ∀ x H2, J.yld i H1 x H2 → Gro m1 m1 H1 H2 ∧ Rl K m1 S1 H2 ∧ DV K m1 H2 x d
def tIt (K : PySem.W.Frag) (f : Env → Sto → R Src) : TI := fun σ H Rr => ∃ m S ρ, Rl K m S H ∧ EnvR K m H σ ρ ∧ Cont K (SR K) (f ρ S) m H fun J H' => Rr J H'
section
variable {K : PySem.W.Frag} {X : Cx} {m : List Addr} {H : Hp} {S : Sto} {σ : Sg} {ρ : Env}
theorem SqT.inj {K : PySem.W.Frag} {H : Hp} {a : Addr} {xs ys : List V} (h : SqT K H a xs) (g : ∃ o, (∀ zs, SqT K H a zs → o = zs)) : True := trivial
theorem sr_list {a : Addr} {ds : List D} {w : List (Nat × List D)} (hl : ds.length ≤ sizeLine) (h : ∀ m1 S1 H1, GroW m m1 H H1 → Rl K m1 S1 H1 → Src.good w S1 → ∃ vs, SqL K H1 a vs ∧ DVs K m1 H1 vs ds) : SR K m H (Itl K a) ⟨ds, w⟩ := by
  refine ⟨hl, fun i m1 S1 H1 G r gd => ?_⟩
  obtain ⟨vs, h1, h2⟩ := h m1 S1 H1 G r gd
  refine ⟨fun hi => ⟨vs, h1, by rw [h2.length]; exact hi⟩, fun d hd => ?_⟩
  obtain ⟨v, e1, e2⟩ := h2.get hd
  refine ⟨⟨vs, v, h1, e1⟩, fun x H2 y => ?_⟩
  obtain ⟨rfl, y⟩ := y
  have := y vs h1
  rw [e1] at this; cases this
  exact ⟨Gro.refl _ _, r, e2⟩
theorem sr_tup {a : Addr} {ds : List D} (hl : ds.length ≤ sizeLine) (h : ∀ m1 S1 H1, GroW m m1 H H1 → Rl K m1 S1 H1 → ∃ vs, H1 a = some (.tup vs) ∧ DVs K m1 H1 vs ds) : SR K m H (Itt K a) ⟨ds, []⟩ := by
  refine ⟨hl, fun i m1 S1 H1 G r gd => ?_⟩
  obtain ⟨vs, h0, h2⟩ := h m1 S1 H1 G r
  have h1 : SqT K H1 a vs := .inl (.inl h0)
  refine ⟨fun hi => ⟨vs, h1, by rw [h2.length]; exact hi⟩, fun d hd => ?_⟩
  obtain ⟨v, e1, e2⟩ := h2.get hd
  refine ⟨⟨vs, v, h1, e1⟩, fun x H2 y => ?_⟩
  obtain ⟨rfl, y⟩ := y
  have := y vs h1
  rw [e1] at this; cases this
  exact ⟨Gro.refl _ _, r, e2⟩
theorem rangeL_get {i j : Int} {k : Nat} {d : D} (h : (rangeL i j)[k]? = some d) : k < (j - i).toNat ∧ d = .int (i + k) := by
  unfold rangeL at h
  obtain ⟨hl, h1⟩ := List.getElem?_eq_some_iff.mp h
  simp at hl h1
  exact ⟨by omega, h1.symm⟩
theorem rangeL_len (i j : Int) : (rangeL i j).length = (j - i).toNat := by unfold rangeL; simp
theorem sr_range {i j : Int} (hl : (j - i).toNat ≤ sizeMax) : SR K m H (Itr i (j - i).toNat) ⟨rangeL i j, []⟩ := by
  refine ⟨by rw [← max_line]; show (rangeL i j).length ≤ _; rw [rangeL_len]; exact hl, fun k m1 S1 H1 G r gd => ⟨fun hk => by rw [rangeL_len] at hk; exact hk, fun d hd => ?_⟩⟩
  obtain ⟨h1, rfl⟩ := rangeL_get hd
  refine ⟨h1, fun x H2 y => ?_⟩
  obtain ⟨rfl, rfl⟩ := y
  exact ⟨Gro.refl _ _, r, .int _⟩
/-- a list, a tuple by its value -/
theorem src_at0 {v : V} {x : D} {s : Src} (r : Rl K m S H) (hx : DV K m H v x) (e : srcD x S = some s) :
    s.items.length ≤ sizeLine ∧ ∃ a, v = .ref a ∧ ((isTup x = true ∧ s.watch = [] ∧ ∀ m1 S1 H1, GroW m m1 H H1 → Rl K m1 S1 H1 → ∃ vs, H1 a = some (.tup vs) ∧ DVs K m1 H1 vs s.items) ∨
      (isTup x = false ∧ ∀ m1 S1 H1, GroW m m1 H H1 → Rl K m1 S1 H1 → Src.good s.watch S1 → ∃ vs, SqL K H1 a vs ∧ DVs K m1 H1 vs s.items) ∧ ∃ vs, SqL K H a vs) := by
  cases hx with
  | tup hs hd =>
    cases e
    exact ⟨by rw [← hd.length]; exact r.lenT hs, _, rfl, .inl ⟨rfl, rfl, fun m1 S1 H1 G r1 => ⟨_, r.tupTW G hs, hd.monoW r G⟩⟩⟩
  | fls hs hd =>
    cases e
    exact ⟨by rw [← hd.length]; exact r.lenF hs, _, rfl, .inr ⟨⟨rfl, fun m1 S1 H1 G r1 _ => ⟨_, (r.fzW G hs).sq, hd.monoW r G⟩⟩, _, hs.sq⟩⟩
  | @ref a n hm =>
    simp only [srcD] at e
    split at e
    · rename_i ds e1
      cases e
      obtain ⟨vs, h1, h2, h3⟩ := lstOf r hm e1
      refine ⟨by rw [← h2.length]; exact h3, _, rfl, .inr ⟨⟨rfl, fun m1 S1 H1 G r1 gd => ?_⟩, _, .inl (.inl h1)⟩⟩
      obtain ⟨ws, w1, w2, _⟩ := lstOf r1 (G.get hm) (gd (n, ds) List.mem_cons_self)
      exact ⟨ws, .inl (.inl w1), w2⟩
    · cases e
  | _ => cases e
theorem src_at {v : V} {x : D} {s : Src} (r : Rl K m S H) (hx : DV K m H v x) (e : srcD x S = some s) :
    ∃ a, v = .ref a ∧ ((isTup x = true ∧ SR K m H (Itt K a) s ∧ ∃ vs, SqT K H a vs) ∨ (isTup x = false ∧ SR K m H (Itl K a) s ∧ ∃ vs, SqL K H a vs)) := by
  obtain ⟨hl, a, rfl, ⟨h1, h2, h3⟩ | ⟨⟨h1, h2⟩, vs, h3⟩⟩ := src_at0 r hx e
  · obtain ⟨items, watch⟩ := s
    cases h2
    obtain ⟨vs, h4, _⟩ := h3 m S H (Gro.refl _ _).w r
    exact ⟨a, rfl, .inl ⟨h1, sr_tup hl h3, vs, .inl (.inl h4)⟩⟩
  · obtain ⟨items, watch⟩ := s
    exact ⟨a, rfl, .inr ⟨h1, sr_list hl h2, vs, h3⟩⟩
theorem rangeDn_get {i j : Int} {k : Nat} {d : D} (h : (rangeDn i j)[k]? = some d) : k < (i - j).toNat ∧ d = .int (i + (k : Int) * -1) := by
  unfold rangeDn at h
  obtain ⟨hl, h1⟩ := List.getElem?_eq_some_iff.mp h
  simp at hl h1
  exact ⟨by omega, by rw [← h1]; congr 1; omega⟩
theorem rangeDn_len (i j : Int) : (rangeDn i j).length = (i - j).toNat := by unfold rangeDn; simp
theorem sr_rangeDn {i j : Int} (hl : (i - j).toNat ≤ sizeMax) : SR K m H (Itc i (-1) (i - j).toNat) ⟨rangeDn i j, []⟩ := by
  refine ⟨by rw [← max_line]; show (rangeDn i j).length ≤ _; rw [rangeDn_len]; exact hl, fun k m1 S1 H1 G r gd => ⟨fun hk => by rw [rangeDn_len] at hk; exact hk, fun d hd => ?_⟩⟩
  obtain ⟨h1, rfl⟩ := rangeDn_get hd
  refine ⟨h1, fun x H2 y => ?_⟩
  obtain ⟨rfl, rfl⟩ := y
  exact ⟨Gro.refl _ _, r, .int _⟩
theorem sr_str {z : Str} (hz : z.length ≤ sizeMax ∧ PyData.strOk z = true) : SR K m H (Its z) ⟨signs z, []⟩ := by
  have hl : (signs z).length = z.cps.size := by unfold signs; simp
  refine ⟨by show (signs z).length ≤ _; rw [hl, ← max_line]; exact hz.1, fun i m1 S1 H1 G r gd => ⟨fun hi => by rw [hl] at hi; exact hi, fun d hd => ?_⟩⟩
  have hd2 : (z.cps.toList.map fun c => D.str ⟨#[c]⟩)[i]? = some d := hd
  rw [List.getElem?_map] at hd2
  have hi : i < z.cps.size := by
    have := (List.getElem?_eq_some_iff.mp hd).1
    have e9 : i < (signs z).length := this
    rwa [hl] at e9
  refine ⟨hi, fun x H2 y => ?_⟩
  obtain ⟨rfl, c, hc, rfl⟩ := y
  have e1 : z.cps.toList[i]? = some c := by rw [Array.getElem?_toList]; exact hc
  rw [e1] at hd2
  have ec : d = .str ⟨#[c]⟩ := (Option.some.inj hd2).symm
  rw [ec]
  refine ⟨Gro.refl _ _, r, .str _ ⟨by show 1 ≤ sizeMax; decide, strOk_one hz.2 ?_⟩⟩
  exact Array.mem_toList_iff.mpr (Array.mem_of_getElem? hc)
/-- any expression that is walked by its value -/
theorem pi_val {tg l : Expr} {f : Env → Sto → R D} (hl : PE X l (tEv X.K f)) : PI X tg l (tIt X.K fun ρ S => (f ρ S).bind fun x S => lft (srcS x S) S) := by
  refine ⟨fun pins s σ H Rr I ⟨m, S, ρ, r, e, c⟩ => ?_⟩
  cases q : f ρ S with
  | ok d S' =>
    have c1 : Cont X.K (SR X.K) (((R.ok d S').bind fun x S => lft (srcS x S) S)) m H fun J H' => Rr J H' := by rw [← q]; exact c
    have c2 : Cont X.K (SR X.K) (lft (srcS d S') S') m H fun J H' => Rr J H' := c1
    obtain ⟨src, e0, c3⟩ := lft_get c2
    by_cases hst : ∃ z, d = .str z
    · obtain ⟨z, rfl⟩ := hst
      cases e0
      refine (pi_str hl).run pins s σ H Rr I ⟨m, S, ρ, r, e, ?_⟩
      rw [q]
      intro m' H' v G r' hv
      cases hv with
      | str z hz => exact ⟨z, rfl, c3 m' H' _ G r' (sr_str hz)⟩
    · have e1 : srcD d S' = some src := by
        rw [← e0]
        cases d <;> first | rfl | exact absurd ⟨_, rfl⟩ hst
      cases hd : isTup d with
      | true =>
        refine (pi_tup hl).run pins s σ H Rr I ⟨m, S, ρ, r, e, ?_⟩
        rw [q]
        intro m' H' v G r' hv
        obtain ⟨a, rfl, ⟨_, h2, h3⟩ | ⟨h, _⟩⟩ := src_at r' hv e1
        · exact ⟨a, rfl, h3, c3 m' H' _ G r' h2⟩
        · rw [hd] at h; cases h
      | false =>
        refine (pi_list hl).run pins s σ H Rr I ⟨m, S, ρ, r, e, ?_⟩
        rw [q]
        intro m' H' v G r' hv
        obtain ⟨a, rfl, ⟨h, _⟩ | ⟨_, h2, h3⟩⟩ := src_at r' hv e1
        · rw [hd] at h; cases h
        · exact ⟨a, rfl, h3, c3 m' H' _ G r' h2⟩
  | exc _ _ _ => exact False.elim (by have c' : Cont X.K (SR X.K) ((f ρ S).bind fun x S => lft (srcS x S) S) m H fun J H' => Rr J H' := c; rw [q] at c'; exact c')
  | bad => exact False.elim (by have c' : Cont X.K (SR X.K) ((f ρ S).bind fun x S => lft (srcS x S) S) m H fun J H' => Rr J H' := c; rw [q] at c'; exact c')
theorem rng_get {x y : D} {s : Src} (e : rangeSrc x y = some s) : ∃ i j, x = .int i ∧ y = .int j ∧ big62 i ∧ big62 j ∧ (j - i).toNat ≤ sizeMax ∧ s = ⟨rangeL i j, []⟩ := by
  unfold rangeSrc at e
  split at e
  · split at e
    · rename_i h
      cases e
      exact ⟨_, _, rfl, rfl, h.1, h.2.1, h.2.2, rfl⟩
    · cases e
  · cases e
/-- range(..) -/
theorem pi_rng1 {tg a : Expr} {p pos : Pos} {f : Env → Sto → R D} (hg : Gl X "range") (hm : X.mg "range" = none) (ha : PE X a (tEv X.K f)) (hs : starEach [a] X.env = [(false, PySem.eval a X.env)]) :
    PI X tg (.Call (.Name "range" p) [a] [] pos) (tIt X.K fun ρ S => (f ρ S).bind fun x S => lft (rangeSrc (.int 0) x) S) := by
  refine ⟨fun pins s σ H Rr I ⟨m, S, ρ, r, e, c⟩ => ?_⟩
  refine (pi_range1 hg hm (pa_cons ha pa_nil hs) hs).run pins s σ H Rr I ?_
  refine (rd1 (RV := SR X.K) (g := fun x _ S => lft (rangeSrc (.int 0) x) S) r e c).mono fun v H1 ⟨m1, S1, x, r1, _, hv, c1⟩ => ?_
  obtain ⟨src, e1, c2⟩ := lft_get c1
  obtain ⟨i, j, h0, rfl, h1, h2, h3, rfl⟩ := rng_get e1
  cases h0
  cases hv
  have q := c2.done (b := Itr 0 (j - 0).toNat) r1 (sr_range h3)
  rw [Int.sub_zero] at q
  exact ⟨j, rfl, h2.1, h2.2, q⟩
theorem pi_rng2 {tg a b : Expr} {p pos : Pos} {f g : Env → Sto → R D} (hg : Gl X "range") (hm : X.mg "range" = none) (ha : PE X a (tEv X.K f)) (hb : PE X b (tEv X.K g)) (hs : starEach [a, b] X.env = (false, PySem.eval a X.env) :: starEach [b] X.env) (hs2 : starEach [b] X.env = [(false, PySem.eval b X.env)]) :
    PI X tg (.Call (.Name "range" p) [a, b] [] pos) (tIt X.K fun ρ S => (f ρ S).bind fun x S => (g ρ S).bind fun y S => lft (rangeSrc x y) S) := by
  refine ⟨fun pins s σ H Rr I ⟨m, S, ρ, r, e, c⟩ => ?_⟩
  refine (pi_range2 hg hm (pa_cons ha (pa_cons hb pa_nil hs2) hs) (by rw [hs, hs2]) hs2).run pins s σ H Rr I ?_
  refine (rd2 (RV := SR X.K) (g := fun x y S => lft (rangeSrc x y) S) r e c).mono fun v H1 q => q.mono fun u H2 ⟨m1, S1, x, y, r1, hv, hu, c1⟩ => ?_
  obtain ⟨src, e1, c2⟩ := lft_get c1
  obtain ⟨i, j, rfl, rfl, h1, h2, h3, rfl⟩ := rng_get e1
  cases hv
  cases hu
  exact ⟨i, j, rfl, ⟨h1.1, h1.2, h2.1, h2.2⟩, c2.done r1 (sr_range h3)⟩
theorem rngDn_get {x y : D} {s : Src} (e : rangeDnSrc x y = some s) : ∃ i j, x = .int i ∧ y = .int j ∧ big62 i ∧ big62 j ∧ (i - j).toNat ≤ sizeMax ∧ s = ⟨rangeDn i j, []⟩ := by
  unfold rangeDnSrc at e
  split at e
  · split at e
    · rename_i h
      cases e
      exact ⟨_, _, rfl, rfl, h.1, h.2.1, h.2.2, rfl⟩
    · cases e
  · cases e
theorem pi_rngDn {tg a b e3 : Expr} {p pos : Pos} {f g : Env → Sto → R D} (hg : Gl X "range") (hm : X.mg "range" = none) (ha : PE X a (tEv X.K f)) (hb : PE X b (tEv X.K g)) (hc : PE X e3 (tEv X.K fun _ S => .ok (.int (-1)) S))
    (hs : starEach [a, b, e3] X.env = (false, PySem.eval a X.env) :: starEach [b, e3] X.env) (hs2 : starEach [b, e3] X.env = (false, PySem.eval b X.env) :: starEach [e3] X.env) (hs3 : starEach [e3] X.env = [(false, PySem.eval e3 X.env)]) :
    PI X tg (.Call (.Name "range" p) [a, b, e3] [] pos) (tIt X.K fun ρ S => (f ρ S).bind fun x S => (g ρ S).bind fun y S => lft (rangeDnSrc x y) S) := by
  refine ⟨fun pins s σ H Rr I ⟨m, S, ρ, r, e, c⟩ => ?_⟩
  refine (pi_range3 hg hm (pa_cons ha (pa_cons hb (pa_cons hc pa_nil hs3) hs2) hs) hs (by rw [hs2, hs3]; rfl)).run pins s σ H Rr I ?_
  refine ⟨m, S, ρ, r, e, (Cont.bind (RV := DV X.K) c).imp fun v H1 ⟨x, m1, S1, G1, r1, hv, c1⟩ => ?_⟩
  refine ⟨m1, S1, ρ, r1, e.mono r G1, (Cont.bind (RV := DV X.K) c1).imp fun u H2 ⟨y, m2, S2, G2, r2, hu, c2⟩ => ?_⟩
  refine ⟨m2, S2, ρ, r2, (e.mono r G1).mono r1 G2, fun m3 H3 w G3 r3 hw => ?_⟩
  obtain ⟨src, e1, c3⟩ := lft_get c2
  obtain ⟨i, j, rfl, rfl, h1, h2, h3, rfl⟩ := rngDn_get e1
  cases hv
  cases hu
  cases hw
  exact ⟨i, j, -1, (i - j).toNat, rfl, RgC.neg h1.1 h1.2 h2.1 h2.2, (c3.mono G3).done r3 (sr_rangeDn h3)⟩
/-- zip -/
theorem zip_get {xs ys : List D} {i : Nat} {d : D} (h : (zipD xs ys)[i]? = some d) : ∃ x y, xs[i]? = some x ∧ ys[i]? = some y ∧ d = .tup [x, y] := by
  unfold zipD at h
  rw [List.getElem?_zipWith] at h
  cases hx : xs[i]? with
  | none => rw [hx] at h; cases h
  | some x =>
    cases hy : ys[i]? with
    | none => rw [hx, hy] at h; cases h
    | some y => rw [hx, hy] at h; cases h; exact ⟨x, y, rfl, rfl, rfl⟩
theorem two_line : (2 : Nat) ≤ sizeLine := by rw [sizeLine_eq]; decide
theorem sr_zip {a b : Addr} {xs ys : List D} {w : List (Nat × List D)} {J : It} (hl : (zipD xs ys).length ≤ sizeLine)
    (h : ∀ i m1 S1 H1, GroW m m1 H H1 → Rl K m1 S1 H1 → Src.good w S1 → (xs.length ≤ i ∨ ys.length ≤ i → J.stop i H1) ∧ ∀ x y, xs[i]? = some x → ys[i]? = some y → J.go i H1 ∧ ∀ v H2, J.yld i H1 v H2 → ∃ T u z, v = .ref T ∧ H1 T = none ∧ H2 = upd H1 T (.tup [u, z]) ∧ DV K m1 H1 u x ∧ DV K m1 H1 z y) :
    SR K m H J ⟨zipD xs ys, w⟩ := by
  refine ⟨hl, fun i m1 S1 H1 G r gd => ?_⟩
  obtain ⟨h1, h2⟩ := h i m1 S1 H1 G r gd
  refine ⟨fun hi => h1 ?_, fun d hd => ?_⟩
  · unfold zipD at hi
    rw [List.length_zipWith] at hi
    omega
  · obtain ⟨x, y, e1, e2, rfl⟩ := zip_get hd
    obtain ⟨h3, h4⟩ := h2 x y e1 e2
    refine ⟨h3, fun v H2 q => ?_⟩
    obtain ⟨T, u, z, rfl, hT, rfl, d1, d2⟩ := h4 v H2 q
    have g := Gro.new m1 (HO.tup [u, z]) hT
    exact ⟨g, r.new hT two_line, .tup upd_same (.cons (d1.mono r g) (.cons (d2.mono r g) .nil))⟩
theorem pi_zp {a b : Expr} {elts : List Expr} {kk : Nat} {p pos tpos : Pos} {f g : Env → Sto → R D} (hg : Gl X "zip") (hm : X.mg "zip" = none) (ha : PE X a (tEv X.K f)) (hb : PE X b (tEv X.K g)) (hs : starEach [a, b] X.env = (false, PySem.eval a X.env) :: starEach [b] X.env) (hs2 : starEach [b] X.env = [(false, PySem.eval b X.env)]) :
    PI X (.Tuple elts kk tpos) (.Call (.Name "zip" p) [a, b] [] pos) (tIt X.K fun ρ S => (f ρ S).bind fun x S => (g ρ S).bind fun y S => lft (zipSrc x y S) S) := by
  refine ⟨fun pins s σ H Rr I ⟨m, S, ρ, r, e, c⟩ => ?_⟩
  refine (RZ.pi_zipA hg hm (pa_cons ha (pa_cons hb pa_nil hs2) hs) hs (by rw [hs2]; rfl)).run pins s σ H Rr I ?_
  refine (rd2 (RV := SR X.K) (g := fun x y S => lft (zipSrc x y S) S) r e c).mono fun v H1 q => q.mono fun u H2 ⟨m1, S1, x, y, r1, hv, hu, c1⟩ => ?_
  obtain ⟨src, e1, c2⟩ := lft_get c1
  unfold zipSrc at e1
  split at e1
  · rename_i ht
    obtain ⟨s1, e2, e3⟩ := Option.bind_eq_some_iff.mp e1
    obtain ⟨s2, e4, rfl⟩ := Option.map_eq_some_iff.mp e3
    have hlen : (zipD s1.items s2.items).length ≤ s1.items.length := by unfold zipD; rw [List.length_zipWith]; exact Nat.min_le_left _ _
    obtain ⟨l1, p1, rfl, k1⟩ := src_at0 r1 hv e2
    obtain ⟨l2, p2, rfl, k2⟩ := src_at0 r1 hu e4
    rcases k1 with ⟨t1, w1, k1⟩ | ⟨⟨t1, k1⟩, vs1, q1⟩
    · rcases k2 with ⟨t2, w2, k2⟩ | ⟨⟨t2, _⟩, _⟩
      · obtain ⟨vs1, q1, _⟩ := k1 m1 S1 H2 (Gro.refl _ _).w r1
        obtain ⟨vs2, q2, _⟩ := k2 m1 S1 H2 (Gro.refl _ _).w r1
        refine ⟨p1, p2, vs1, vs2, rfl, .inr ⟨.inl (.inl q1), .inl (.inl q2), c2.done r1 (sr_zip (a := p1) (b := p2) (Nat.le_trans hlen l1) fun i m3 S3 H3 G r3 gd => ?_)⟩⟩
        obtain ⟨us1, z1, d1⟩ := k1 m3 S3 H3 G r3
        obtain ⟨us2, z2, d2⟩ := k2 m3 S3 H3 G r3
        have z1 : SqT X.K H3 p1 us1 := .inl (.inl z1)
        have z2 : SqT X.K H3 p2 us2 := .inl (.inl z2)
        refine ⟨fun hh => ⟨us1, us2, z1, z2, by rw [d1.length, d2.length]; exact hh⟩, fun x y hx hy => ?_⟩
        obtain ⟨u1, g1, g2⟩ := d1.get hx
        obtain ⟨u2, g3, g4⟩ := d2.get hy
        refine ⟨⟨us1, us2, u1, u2, z1, z2, g1, g3⟩, fun v H9 ⟨T, a1, a2, hv, hT, hH, f1, f2⟩ => ?_⟩
        have e1 := f1 _ z1
        have e2 := f2 _ z2
        rw [g1] at e1
        rw [g3] at e2
        cases e1
        cases e2
        exact ⟨T, _, _, hv, hT, hH, g2, g4⟩
      · rw [t1, t2] at ht; cases ht
    · rcases k2 with ⟨t2, _, _⟩ | ⟨⟨t2, k2⟩, vs2, q2⟩
      · rw [t1, t2] at ht; cases ht
      · refine ⟨p1, p2, vs1, vs2, rfl, .inl ⟨q1, q2, c2.done r1 (sr_zip (a := p1) (b := p2) (Nat.le_trans hlen l1) fun i m3 S3 H3 G r3 gd => ?_)⟩⟩
        obtain ⟨us1, z1, d1⟩ := k1 m3 S3 H3 G r3 fun p hp => gd p (List.mem_append_left _ hp)
        obtain ⟨us2, z2, d2⟩ := k2 m3 S3 H3 G r3 fun p hp => gd p (List.mem_append_right _ hp)
        refine ⟨fun hh => ⟨us1, us2, z1, z2, by rw [d1.length, d2.length]; exact hh⟩, fun x y hx hy => ?_⟩
        obtain ⟨u1, g1, g2⟩ := d1.get hx
        obtain ⟨u2, g3, g4⟩ := d2.get hy
        refine ⟨⟨us1, us2, u1, u2, z1, z2, g1, g3⟩, fun v H9 ⟨T, a1, a2, hv, hT, hH, f1, f2⟩ => ?_⟩
        have e1 := f1 _ z1
        have e2 := f2 _ z2
        rw [g1] at e1
        rw [g3] at e2
        cases e1
        cases e2
        exact ⟨T, _, _, hv, hT, hH, g2, g4⟩
  · cases e1
end
end PV

namespace PV
open PySem PySem.Spec PyProof.Rows L2
/-! ### targets -/
section
variable {K : PySem.W.Frag} {X : Cx} {m m' : List Addr} {H : Hp} {S : Sto} {σ : Sg} {ρ : Env}
theorem wipe_get (σ : Sg) : ∀ (t : List Nat) (j : Nat), (wipe σ t)[j]? = if j ∈ t then (if j < σ.length then some none else none) else σ[j]?
  | [], j => by simp [wipe]
  | v :: vs, j => by
    have hl := wipe_length σ vs
    show ((wipe σ vs).set v none)[j]? = _
    by_cases h : v = j
    · subst h
      rw [if_pos List.mem_cons_self]
      by_cases hv : v < σ.length
      · rw [List.getElem?_set_self (by rw [hl]; exact hv), if_pos hv]
      · rw [if_neg hv, List.getElem?_eq_none (by rw [List.length_set, hl]; omega)]
    · rw [List.getElem?_set_ne h, wipe_get σ vs j]
      by_cases hm : j ∈ vs
      · rw [if_pos hm, if_pos (List.mem_cons_of_mem _ hm)]
      · rw [if_neg hm, if_neg (by simp [hm]; exact fun e => h e.symm)]
theorem wipeE_get (ρ : Env) : ∀ (t : List Nat) (j : Nat), (wipeE ρ t)[j]? = if j ∈ t then (if j < ρ.length then some none else none) else ρ[j]?
  | [], j => by simp [wipeE]
  | v :: vs, j => by
    have hl : ∀ vs, (wipeE ρ vs).length = ρ.length := fun vs => by
      induction vs with
      | nil => rfl
      | cons a b ih => show ((wipeE ρ b).set a none).length = _; rw [List.length_set, ih]
    show ((wipeE ρ vs).set v none)[j]? = _
    by_cases h : v = j
    · subst h
      rw [if_pos List.mem_cons_self]
      by_cases hv : v < ρ.length
      · rw [List.getElem?_set_self (by rw [hl]; exact hv), if_pos hv]
      · rw [if_neg hv, List.getElem?_eq_none (by rw [List.length_set, hl]; omega)]
    · rw [List.getElem?_set_ne h, wipeE_get ρ vs j]
      by_cases hm : j ∈ vs
      · rw [if_pos hm, if_pos (List.mem_cons_of_mem _ hm)]
      · rw [if_neg hm, if_neg (by simp [hm]; exact fun e => h e.symm)]
theorem wipeE_length (ρ : Env) : ∀ t, (wipeE ρ t).length = ρ.length
  | [] => rfl
  | a :: b => by show ((wipeE ρ b).set a none).length = _; rw [List.length_set, wipeE_length ρ b]
theorem EnvR.wipe (e : EnvR K m H σ ρ) (t : List Nat) : EnvR K m H (L2.wipe σ t) (wipeE ρ t) := by
  refine ⟨by rw [wipe_length, wipeE_length, e.1], fun i d h => ?_⟩
  rw [wipeE_get] at h
  split at h
  · split at h <;> cases h
  · rename_i hn
    obtain ⟨v, h1, h2⟩ := e.2 i d h
    exact ⟨v, by rw [wipe_get, if_neg hn]; exact h1, h2⟩
theorem wipe_idem (σ : Sg) (t : List Nat) : wipe (wipe σ t) t = wipe σ t := by
  refine List.ext_getElem? fun j => ?_
  rw [wipe_get, wipe_get, wipe_length]
  split <;> simp_all
/-- the targets are stored, one by one -/
def setAll (σ : Sg) : List Nat → List V → Sg
  | i :: is, v :: vs => setAll (σ.set i (some v)) is vs
  | _, _ => σ
theorem setAll_env : ∀ {t : List Nat} {vs : List V} {ds : List D} {σ : Sg} {ρ : Env}, EnvR K m H σ ρ → DVs K m H vs ds → EnvR K m H (setAll σ t vs) ((t.zip ds).foldl (fun ρ p => ρ.set p.1 (some p.2)) ρ)
  | [], vs, ds, _, _, e, h => by cases h <;> exact e
  | i :: is, _, _, _, _, e, .nil => e
  | i :: is, _, _, _, _, e, .cons h t => setAll_env (t := is) (e.set h i) t
theorem setAll_wipe : ∀ {t : List Nat} {vs : List V} {σ : Sg} {t0 : List Nat}, (∀ i ∈ t, i ∈ t0) → wipe (setAll σ t vs) t0 = wipe σ t0
  | [], vs, σ, t0, _ => by cases vs <;> rfl
  | i :: is, [], σ, t0, _ => rfl
  | i :: is, v :: vs, σ, t0, h => by
    show wipe (setAll (σ.set i (some v)) is vs) t0 = _
    rw [setAll_wipe fun j hj => h j (List.mem_cons_of_mem _ hj)]
    refine List.ext_getElem? fun j => ?_
    rw [wipe_get, wipe_get, List.length_set]
    by_cases hj : j ∈ t0
    · rw [if_pos hj, if_pos hj]
    · rw [if_neg hj, if_neg hj, List.getElem?_set_ne (by rintro rfl; exact hj (h _ List.mem_cons_self))]
def tTg (K : PySem.W.Frag) (t : List Nat) : TG := fun v σ H Q => ∃ m S x ρ ρ', Rl K m S H ∧ EnvR K m H σ ρ ∧ DV K m H v x ∧ asg t x ρ = some ρ' ∧ ∀ σ', EnvR K m H σ' ρ' → wipe σ' t = wipe σ t → Q σ' H
def gAll (t : List Nat) : TGs := fun vs σ H Q => vs.length = t.length ∧ Q (setAll σ t vs) H
theorem loc_of {sc : Scope} {fnb : Str → Bool} {x : Str} {X : Cx} (hs : X.env.scope = sc) (hf : ∀ x, X.fn x = fnb x) (h : locOk sc fnb x = true) : Loc X.env.scope x ∧ (X.fn x = true ∨ X.env.scope.names.lookup x = some .local) := by
  subst hs
  unfold locOk at h
  split at h
  · rename_i e; exact ⟨.inl e, .inr e⟩
  · rename_i e; exact ⟨.inr e, .inl ((hf x).trans h)⟩
  · cases h
theorem pg_n {fnb : Str → Bool} {x : Str} {p : Pos} {i : Nat} (nd : X.N.Nodup) (hf : ∀ x, X.fn x = fnb x) (h : cT1 X.env.scope X.N fnb (.Name x p) = some i) : PG X (.Name x p) (gName i) := by
  unfold cT1 at h
  dsimp only at h
  split at h
  · rename_i hl
    obtain ⟨h1, h2⟩ := loc_of rfl hf hl
    exact pg_name nd (ixOf_get h) h1 h2
  · cases h
theorem cT1_name {sc : Scope} {N : List Str} {fnb : Str → Bool} {e : Expr} {i : Nat} (h : cT1 sc N fnb e = some i) : ∃ x p, e = .Name x p := by
  unfold cT1 at h
  split at h
  · exact ⟨_, _, rfl⟩
  · cases h
theorem pgs_all {fnb : Str → Bool} (nd : X.N.Nodup) (hf : ∀ x, X.fn x = fnb x) : ∀ {es : List Expr} {t : List Nat}, cTs X.env.scope X.N fnb es = some t → PGs X es (gAll t) ∧ (assignEach es X.env).length = t.length ∧ (assignEach es X.env).findIdx? (·.1) = none
  | [], t, h => by
    cases h
    refine ⟨⟨fun a b c d vs us Q I r ⟨h1, h2⟩ => pgs_nil.run a b c d vs us Q I r ⟨List.eq_nil_of_length_eq_zero h1, ?_⟩⟩, rfl, rfl⟩
    cases vs <;> exact h2
  | e :: es, t, h => by
    obtain ⟨i, h1, h2⟩ := Option.bind_eq_some_iff.mp h
    obtain ⟨is, h3, rfl⟩ := Option.map_eq_some_iff.mp h2
    obtain ⟨x, p, rfl⟩ := cT1_name h1
    obtain ⟨q1, q2, q3⟩ := pgs_all nd hf h3
    refine ⟨⟨fun a b c d vs us Q I r ⟨h4, h5⟩ => (pgs_cons (pg_n nd hf h1) q1).run a b c d vs us Q I r ?_⟩, ?_, ?_⟩
    · cases vs with
      | nil => cases h4
      | cons v vs => exact ⟨v, vs, rfl, by simpa using h4, h5⟩
    · show (assignEach es X.env).length + 1 = is.length + 1
      rw [q2]
    · show ((false, assign (.Name x p) X.env) :: assignEach es X.env).findIdx? (·.1) = none
      rw [List.findIdx?_cons]
      simp [q3]
theorem pg_tg {fnb : Str → Bool} {e : Expr} {t : List Nat} (nd : X.N.Nodup) (hc : X.calm = true) (hf : ∀ x, X.fn x = fnb x) (h : cTg X.env.scope X.N fnb e = some t) : PG X e (tTg X.K t) := by
  unfold cTg at h
  split at h
  · rename_i x p
    obtain ⟨i, h1, rfl⟩ := Option.map_eq_some_iff.mp h
    refine ⟨fun a b c d v u Q I r ⟨m, S, z, ρ, ρ', rl, en, hv, ha, k⟩ => (pg_n nd hf h1).run a b c d v u Q I r (k _ ?_ ?_)⟩
    · cases ha
      exact en.set hv i
    · show (c.set i (some v)).set i none = c.set i none
      rw [List.set_set]
  · rename_i es kk p
    split at h
    · rename_i hlen
      obtain ⟨q1, q2, q3⟩ := pgs_all nd hf h
      refine ⟨fun a b c d v u Q I r ⟨m, S, z, ρ, ρ', rl, en, hv, ha, k⟩ => (pg_tup hc q1 q2 q3).run a b c d v u Q I r ?_⟩
      have ht : 2 ≤ t.length := by
        have : es.length = t.length := by
          rw [← q2]
          clear q1 q2 q3 h hlen k ha
          induction es with
          | nil => rfl
          | cons e es ih => cases e <;> simp [assignEach, ih]
        omega
      obtain ⟨i, j, r9, rfl⟩ : ∃ i j r, t = i :: j :: r := by
        match t, ht with
        | i :: j :: r, _ => exact ⟨i, j, r, rfl⟩
      cases hv with
      | tup hs hd =>
        have ha : (if _ then some _ else none) = some ρ' := ha
        split at ha
        · rename_i hl
          cases ha
          exact ⟨_, _, rfl, .inl (.inl hs), by rw [hd.length]; exact hl, by rw [hd.length]; exact hl, k _ (setAll_env en hd) (setAll_wipe fun _ h => h)⟩
        · cases ha
      | _ => cases ha
    · cases h
  · cases h

/-! ### comprehensions -/
theorem DV.ext (hm : ∀ (n : Nat) (a : Addr), m[n]? = some a → m'[n]? = some a) : ∀ {v : V} {d : D}, DV K m H v d → DV K m' H v d := by
  intro v d h
  refine DV.rec (K := K) (m := m) (H := H) (motive_1 := fun v d _ => DV K m' H v d) (motive_2 := fun vs ds _ => DVs K m' H vs ds) ?_ ?_ ?_ ?_ ?_ ?_ ?_ ?_ ?_ ?_ ?_ h
  · exact .non
  · exact .bl
  · exact .int
  · exact .str
  · exact fun h _ t => .tup h t
  · exact fun h _ t => .fls h t
  · exact fun h => .ref (hm _ _ h)
  · exact fun h _ t => .ctu h t
  · exact fun h => .cdc h
  · exact .nil
  · exact fun _ _ a b => .cons a b
theorem DVs.ext (hm : ∀ (n : Nat) (a : Addr), m[n]? = some a → m'[n]? = some a) : ∀ {vs : List V} {ds : List D}, DVs K m H vs ds → DVs K m' H vs ds
  | _, _, .nil => .nil
  | _, _, .cons a b => .cons (DV.ext hm a) (DVs.ext hm b)
/-- a list that is not the store's is changed -/
theorem SqT.upd' {q : Addr} {acc zs : List V} (hD : H q = some (.lst acc)) {a : Addr} {xs : List V} (h : SqT K H a xs) : SqT K (upd H q (.lst zs)) a xs := by
  rcases h with (h | ⟨o, h⟩) | h
  · exact .inl (.inl (by rw [upd_ne (fun e => by rw [e, hD] at h; cases h)]; exact h))
  · exact .inl (.inr ⟨o, by rw [upd_ne (fun e => by rw [e, hD] at h; cases h)]; exact h⟩)
  · exact .inr h
theorem Fz.upd' {q : Addr} {acc zs : List V} (hD : H q = some (.lst acc)) {a : Addr} {xs : List V} (h : Fz K H a xs) : Fz K (upd H q (.lst zs)) a xs := by
  rcases h with ⟨o, h, hl⟩ | h
  · exact .inl ⟨o, by rw [upd_ne (fun e => by rw [e, hD] at h; cases h)]; exact h, hl⟩
  · exact .inr h
mutual
theorem DV.upd' {q : Addr} {acc zs : List V} (hD : H q = some (.lst acc)) : ∀ {v : V} {d : D}, DV K m H v d → DV K m (upd H q (.lst zs)) v d
  | _, _, .non => .non
  | _, _, .bl b => .bl b
  | _, _, .int i => .int i
  | _, _, .str s h => .str s h
  | _, _, .tup h t => .tup (by rw [upd_ne (fun e => by rw [e, hD] at h; cases h)]; exact h) (DVs.upd' hD t)
  | _, _, .fls h t => .fls (Fz.upd' hD h) (DVs.upd' hD t)
  | _, _, .ref h => .ref h
  | _, _, .ctu h t => .ctu h (DVs.upd' hD t)
  | _, _, .cdc h => .cdc h
theorem DVs.upd' {q : Addr} {acc zs : List V} (hD : H q = some (.lst acc)) : ∀ {vs : List V} {ds : List D}, DVs K m H vs ds → DVs K m (upd H q (.lst zs)) vs ds
  | _, _, .nil => .nil
  | _, _, .cons h t => .cons (DV.upd' hD h) (DVs.upd' hD t)
end
theorem OV.upd' {q : Addr} {acc zs : List V} (hD : H q = some (.lst acc)) {a : Addr} (hne : a ≠ q) {o : O} (h : OV K m H a o) : OV K m (upd H q (.lst zs)) a o := by
  have hu : upd H q (.lst zs) a = H a := upd_ne hne
  cases o with
  | lst ds =>
    obtain ⟨xs, e, t⟩ := h
    exact ⟨xs, hu.trans e, DVs.upd' hD t⟩
  | dic kvs =>
    rcases h with ⟨ks, e, t⟩ | ⟨ks, e, t⟩
    · exact .inl ⟨ks, hu.trans e, Paired.mapP t fun _ _ z => ⟨z.1, DV.upd' hD z.2⟩⟩
    · exact .inr ⟨ks, hu.trans e, Paired.mapP t fun _ _ z => ⟨z.1, DV.upd' hD z.2⟩⟩
theorem OV.ext (hm : ∀ (n : Nat) (a : Addr), m[n]? = some a → m'[n]? = some a) {a : Addr} {o : O} (h : OV K m H a o) : OV K m' H a o := by
  cases o with
  | lst ds =>
    obtain ⟨xs, e, t⟩ := h
    exact ⟨xs, e, DVs.ext hm t⟩
  | dic kvs =>
    rcases h with ⟨ks, e, t⟩ | ⟨ks, e, t⟩
    · exact .inl ⟨ks, e, Paired.mapP t fun _ _ z => ⟨z.1, DV.ext hm z.2⟩⟩
    · exact .inr ⟨ks, e, Paired.mapP t fun _ _ z => ⟨z.1, DV.ext hm z.2⟩⟩
theorem Rl.other {q : Addr} {acc zs : List V} (r : Rl K m S H) (hm : q ∉ m) (hD : H q = some (.lst acc)) (hz : zs.length ≤ sizeLine) : Rl K m S (upd H q (.lst zs)) := by
  refine ⟨r.len, r.nd, fun i a o h1 h2 => ?_, fun a o h => ?_⟩
  · have q := r.ob i a o h1 h2
    exact OV.upd' hD (show a ≠ _ by rintro rfl; exact hm (List.mem_of_getElem? h1)) q
  · unfold upd at h
    split at h
    · cases h; exact hz
    · exact r.hb a o h
end
end PV

namespace PV
open PySem PySem.Spec PyProof.Rows L2
section
variable {K : PySem.W.Frag} {X : Cx} {m m' : List Addr} {H H' : Hp} {S : Sto} {σ : Sg} {ρ : Env}
theorem Cont.bind0 {α β α' β' : Type} {RV : List Addr → Hp → β → α → Prop} {RV' : List Addr → Hp → β' → α' → Prop} {r : R α} {g : α → Sto → R α'} {Q : β' → Hp → Prop}
    (h : Cont K RV' (r.bind g) m H Q) (m2 : List Addr) (H2 : Hp) : Cont K RV r m2 H2 fun b H1 => ∃ a m1 S1, Gro m2 m1 H2 H1 ∧ Rl K m1 S1 H1 ∧ RV m1 H1 b a ∧ Cont K RV' (g a S1) m H Q := by
  cases r with
  | ok a S' => exact fun m' H' b G R' v => ⟨a, m', S', G, R', v, h⟩
  | exc _ _ _ => exact h
  | bad => exact h
def stepC (fk : Env → Sto → R Bool) (fe : Env → Sto → R D) (t : List Nat) (ρ : Env) : D → Sto → R (Option D) := fun x S => (lft (asg t x (wipeE ρ t)) S).bind fun ρ' S =>
      (fk ρ' S).bind fun b S => if b = true then (fe ρ' S).bind fun v S => .ok (some v) S else .ok none S
theorem Rl.plusO {q : Addr} {o : O} (r : Rl K m S H) (hm : q ∉ m) (hd : OV K m H q o) : Rl K (m ++ [q]) (S ++ [o]) H := by
  have hx : ∀ (n : Nat) (a : Addr), m[n]? = some a → (m ++ [q])[n]? = some a := fun n a h => by
    rw [List.getElem?_append_left (List.getElem?_eq_some_iff.mp h).1]; exact h
  refine ⟨by simp [r.len], ?_, fun i a u h1 h2 => ?_, r.hb⟩
  · rw [List.nodup_append]
    refine ⟨r.nd, by simp, fun a ha b hb => ?_⟩
    have : b = q := by simpa using hb
    subst this
    rintro rfl
    exact hm ha
  · by_cases hi : i < S.length
    · rw [List.getElem?_append_left (by rw [r.len]; exact hi)] at h1
      rw [List.getElem?_append_left hi] at h2
      exact OV.ext hx (r.ob i a u h1 h2)
    · have hl : i = S.length := by
        have := (List.getElem?_eq_some_iff.mp h2).1
        simp at this; omega
      subst hl
      rw [List.getElem?_append_right (by rw [r.len]; exact Nat.le_refl _), r.len] at h1
      rw [List.getElem?_append_right (Nat.le_refl _)] at h2
      simp at h1 h2
      subst h1 h2
      exact OV.ext hx hd
theorem Rl.plus {q : Addr} {acc : List V} {ds : List D} (r : Rl K m S H) (hm : q ∉ m) (hq : H q = some (.lst acc)) (hd : DVs K m H acc ds) : Rl K (m ++ [q]) (S ++ [.lst ds]) H := r.plusO hm ⟨acc, hq, hd⟩
theorem Gro.notIn {q : Addr} (g : Gro m m' H H') (hm : q ∉ m) (hq : H q ≠ none) : q ∉ m' := by
  obtain ⟨⟨t, rfl, ht⟩, _, _⟩ := g
  intro h
  rcases List.mem_append.mp h with h | h
  · exact hm h
  · exact hq (ht q h)
theorem lc_of {fi : Env → Sto → R Src} {fk : Env → Sto → R Bool} {fe : Env → Sto → R D} {t : List Nat} {Q : VK}
    (h : tEv K (fun ρ S => (fi ρ S).bind fun s S => (compL s.watch (stepC fk fe t ρ) s.items S).bind fun vs S => alloc (.lst vs) S) σ H Q) : tLc (tIt K fi) (tTg K t) (tTe K fk) (tEv K fe) t σ H Q := by
  obtain ⟨m, S, ρ, r, en, c⟩ := h
  refine ⟨m, S, ρ, r, en, (Cont.bind (RV := SR K) c).imp fun J H1 ⟨s, m1, S1, G1, r1, sr, c1⟩ q hq => ?_⟩
  obtain ⟨items, w⟩ := s
  obtain ⟨hlen, sr⟩ := sr
  replace hlen : items.length ≤ sizeLine := hlen
  replace c1 : Cont K (DV K) ((compL w (stepC fk fe t ρ) items S1).bind fun vs S => alloc (.lst vs) S) m1 H1 Q := c1
  have hq1 : q ∉ m1 := fun h => by exact r1.notN hq h
  refine ⟨fun i k Hc => k = items.length - i ∧ i ≤ items.length ∧ ∃ mc Sc acc ds, Gro m1 mc H1 Hc ∧ Rl K mc Sc Hc ∧ q ∉ mc ∧ Hc q = some (.lst acc) ∧ DVs K mc Hc acc ds ∧ ds.length ≤ i ∧
    Cont K (DV K) ((compL w (stepC fk fe t ρ) (items.drop i) Sc).bind fun vs S => alloc (.lst (ds ++ vs)) S) m1 H1 Q, ⟨items.length, rfl, Nat.zero_le _, m1, S1, [], [], Gro.new m1 _ hq, r1.new hq (Nat.zero_le _), hq1, upd_same, .nil, Nat.le_refl _, c1⟩, ?_⟩
  rintro i k Hc ⟨rfl, hi, mc, Sc, acc, ds, G, rc, hqc, hqv, hds, hdl, cc⟩
  by_cases hlt : i < items.length
  · have hdrop : items.drop i = items[i] :: items.drop (i + 1) := List.drop_eq_getElem_cons hlt
    rw [hdrop] at cc
    unfold compL at cc
    by_cases hg : Src.good w Sc
    · rw [if_pos hg] at cc
      obtain ⟨_, s2⟩ := sr i mc Sc Hc G.w rc hg
      obtain ⟨hgo, hy⟩ := s2 items[i] (List.getElem?_eq_getElem hlt)
      refine .inr ⟨hgo, _, fun H' nx => ⟨items.length - (i + 1), by omega, nx⟩, fun x H2 yy => ?_⟩
      obtain ⟨g2, r2, hx⟩ := hy x H2 yy
      have G2 := G.trans g2
      have q2 : H2 q = some (.lst acc) := g2.fr q _ hqc hqv
      rw [R.bind_assoc] at cc
      unfold stepC at cc
      rw [R.bind_assoc] at cc
      have en2 : EnvR K mc H2 (wipe σ t) (wipeE ρ t) := ((en.mono r (G1.trans G2))).wipe t
      cases ha : asg t items[i] (wipeE ρ t) with
      | none => rw [ha] at cc; exact False.elim cc
      | some ρ' =>
        rw [ha] at cc
        rw [lft_some, R.bind_ok, R.bind_assoc] at cc
        refine ⟨mc, Sc, items[i], _, ρ', r2, en2, hx, ha, fun σ' en3 hw => ⟨by rw [hw, wipe_idem], ?_⟩⟩
        refine ⟨mc, Sc, ρ', r2, en3, (Cont.bind0 (RV := BR) cc mc H2).imp fun b H3 ⟨b', m3, S3, g3, r3, hb, c3⟩ => ?_⟩
        cases hb
        have q3 : H3 q = some (.lst acc) := g3.fr q _ hqc q2
        have hq3 : q ∉ m3 := g3.notIn hqc (by rw [q2]; simp)
        have hd3 : DVs K m3 H3 acc ds := (hds.mono rc g2).mono r2 g3
        cases b with
        | false =>
          rw [if_neg (by simp)] at c3 ⊢
          rw [R.bind_ok, R.bind_assoc] at c3
          exact ⟨rfl, hlt, m3, S3, acc, ds, G2.trans g3, r3, hq3, q3, hd3, by omega, c3⟩
        | true =>
          rw [if_pos rfl] at c3 ⊢
          rw [R.bind_assoc] at c3
          refine ⟨m3, S3, ρ', r3, en3.mono r2 g3, (Cont.bind0 (RV := DV K) c3 m3 H3).imp fun y H4 ⟨v, m4, S4, g4, r4, hv, c4⟩ => ?_⟩
          have q4 : H4 q = some (.lst acc) := g4.fr q _ hq3 q3
          have hq4 : q ∉ m4 := g4.notIn hq3 (by rw [q3]; simp)
          have hd4 := hd3.mono r3 g4
          have hal : acc.length = ds.length := hds.length
          refine ⟨acc, q4, by omega, rfl, hlt, m4, S4, acc ++ [y], ds ++ [v], ?_, r4.other hq4 q4 ?_, hq4, upd_same, ?_, by simp; omega, ?_⟩
          · have G4 := (G2.trans g3).trans g4
            refine ⟨G4.ex, fun a o h1 h2 => ?_, fun a h => ?_⟩
            · rw [upd_ne (show a ≠ q by rintro rfl; rw [hq] at h2; cases h2)]
              exact G4.fr a o h1 h2
            · unfold upd
              split
              · simp
              · exact G4.dm a h
          · simp; omega
          · exact DVs.upd' q4 (hd4.append (.cons hv .nil))
          · rw [R.bind_ok, R.bind_assoc] at c4
            simp only [R.bind_ok] at c4
            simp only [List.append_assoc, List.singleton_append]
            exact c4
    · rw [if_neg hg] at cc
      exact False.elim cc
  · have hi : i = items.length := by omega
    subst hi
    rw [List.drop_length] at cc
    unfold compL at cc
    by_cases hg : Src.good w Sc
    · rw [if_pos hg, R.bind_ok, List.append_nil] at cc
      obtain ⟨s1, _⟩ := sr items.length mc Sc Hc G.w rc hg
      refine .inl ⟨s1 (Nat.le_refl _), ?_⟩
      refine cc (mc ++ [q]) Hc (.ref q) ?_ (rc.plus hqc hqv hds) (.ref (by rw [← rc.len]; simp))
      obtain ⟨⟨tt, rfl, ht⟩, f, d⟩ := G
      refine ⟨⟨tt ++ [q], by simp, fun a ha => ?_⟩, f, d⟩
      rcases List.mem_append.mp ha with ha | ha
      · exact ht a ha
      · have : a = q := by simpa using ha
        rw [this]; exact hq
    · rw [if_neg hg] at cc
      exact False.elim cc
theorem bind_get {α β : Type} {r : R α} {f : α → Sto → R β} {b : β} {S1 : Sto} (h : r.bind f = .ok b S1) : ∃ a S2, r = .ok a S2 ∧ f a S2 = .ok b S1 := by
  cases r with
  | ok a S2 => exact ⟨a, S2, rfl, h⟩
  | exc _ _ _ => cases h
  | bad => cases h
theorem Cont.get {α β : Type} {RV : List Addr → Hp → β → α → Prop} {r : R α} {Q : β → Hp → Prop} (h : Cont K RV r m H Q) : ∃ a S1, r = .ok a S1 := by
  cases r with
  | ok a S1 => exact ⟨a, S1, rfl⟩
  | exc _ _ _ => exact False.elim h
  | bad => exact False.elim h
theorem EnvR.monoW (r : Rl K m S H) (g : GroW m m' H H') (e : EnvR K m H σ ρ) : EnvR K m' H' σ ρ :=
  ⟨e.1, fun i d h => let ⟨v, h1, h2⟩ := e.2 i d h; ⟨v, h1, h2.monoW r g⟩⟩
theorem wipe_part {σ σ2 : Sg} {t t2 : List Nat} (h : wipe σ2 t = wipe (wipe σ (t ++ t2)) t) : wipe σ2 (t ++ t2) = wipe σ (t ++ t2) := by
  have hl : σ2.length = σ.length := by
    have := congrArg List.length h
    rw [wipe_length, wipe_length, wipe_length] at this
    exact this
  refine List.ext_getElem? fun j => ?_
  have hj := congrArg (fun l => l[j]?) h
  simp only [wipe_get] at hj ⊢
  by_cases h1 : j ∈ t ++ t2
  · rw [if_pos h1, if_pos h1, hl]
  · have h2 : j ∉ t := fun x => h1 (List.mem_append_left _ x)
    rw [if_neg h1, if_neg h1]
    rw [if_neg h2, if_neg h2, if_neg h1] at hj
    exact hj
theorem GroW.put {q : Addr} {acc zs : List V} (hq : H q = some (.lst acc)) (hm : q ∉ m) : GroW m m H (upd H q (.lst zs)) := by
  refine ⟨⟨[], by simp, by simp⟩, fun a o h0 h1 h2 => ?_, fun a h => ?_⟩
  · rw [upd_ne (show a ≠ q by rintro rfl; rw [hq] at h2; cases h2; cases h0)]
    exact h2
  · unfold upd
    split
    · simp
    · exact h
/-- a list that was not there at the start is changed -/
theorem Gro.put0 {q : Addr} {zs : List V} (g : Gro m m' H H') (hq : H q = none) : Gro m m' H (upd H' q (.lst zs)) := by
  refine ⟨g.ex, fun a o h1 h2 => ?_, fun a h => ?_⟩
  · rw [upd_ne (show a ≠ q by rintro rfl; rw [hq] at h2; cases h2)]
    exact g.fr a o h1 h2
  · unfold upd
    split
    · simp
    · exact g.dm a h
noncomputable def step2 (fi2 : Env → Sto → R Src) (fk : Env → Sto → R Bool) (fe : Env → Sto → R D) (t t2 : List Nat) (ρ : Env) : D → Sto → R (List D) := fun x S => (lft (asg t x (wipeE ρ (t ++ t2))) S).bind fun ρ1 S =>
      (fi2 ρ1 S).bind fun s2 S => compL s2.watch (stepC fk fe t2 ρ1) s2.items S
theorem lc2_of {fi fi2 : Env → Sto → R Src} {fk : Env → Sto → R Bool} {fe : Env → Sto → R D} {t t2 : List Nat} {Q : VK}
    (h : tEv K (fun ρ S => (fi ρ S).bind fun s S => (flatL s.watch (step2 fi2 fk fe t t2 ρ) s.items S).bind fun vs S => allocB vs S) σ H Q) :
    tLc2 (tIt K fi) (tTg K t) (tTe K fun _ S => .ok true S) (tIt K fi2) (tTg K t2) (tTe K fk) (tEv K fe) (t ++ t2) t2 σ H Q := by
  obtain ⟨m, S, ρ, r, en, c⟩ := h
  refine ⟨m, S, ρ, r, en, (Cont.bind (RV := SR K) c).imp fun J H1 ⟨s, m1, S1, G1, r1, sr, c1⟩ q hq => ?_⟩
  obtain ⟨items, w⟩ := s
  obtain ⟨hlen, sr⟩ := sr
  replace hlen : items.length ≤ sizeLine := hlen
  replace c1 : Cont K (DV K) ((flatL w (step2 fi2 fk fe t t2 ρ) items S1).bind fun vs S => allocB vs S) m1 H1 Q := c1
  have hq1 : q ∉ m1 := fun h => by exact r1.notN hq h
  refine ⟨fun i k Hc => k = items.length - i ∧ i ≤ items.length ∧ ∃ mc Sc acc ds, Gro m1 mc H1 Hc ∧ Rl K mc Sc Hc ∧ q ∉ mc ∧ Hc q = some (.lst acc) ∧ DVs K mc Hc acc ds ∧
    Cont K (DV K) ((flatL w (step2 fi2 fk fe t t2 ρ) (items.drop i) Sc).bind fun vs S => allocB (ds ++ vs) S) m1 H1 Q, ⟨items.length, rfl, Nat.zero_le _, m1, S1, [], [], Gro.new m1 _ hq, r1.new hq (Nat.zero_le _), hq1, upd_same, .nil, c1⟩, ?_⟩
  rintro i k Hc ⟨rfl, hi, mc, Sc, acc, ds, G, rc, hqc, hqv, hds, cc⟩
  by_cases hlt : i < items.length
  · have hdrop : items.drop i = items[i] :: items.drop (i + 1) := List.drop_eq_getElem_cons hlt
    rw [hdrop] at cc
    unfold flatL at cc
    by_cases hg : Src.good w Sc
    · rw [if_pos hg] at cc
      obtain ⟨_, s2⟩ := sr i mc Sc Hc G.w rc hg
      obtain ⟨hgo, hy⟩ := s2 items[i] (List.getElem?_eq_getElem hlt)
      refine .inr ⟨hgo, _, fun H' nx => ⟨items.length - (i + 1), by omega, nx⟩, fun x H2 yy => ?_⟩
      obtain ⟨g2, r2, hx⟩ := hy x H2 yy
      have G2 := G.trans g2
      have q2 : H2 q = some (.lst acc) := g2.fr q _ hqc hqv
      rw [R.bind_assoc] at cc
      unfold step2 at cc
      rw [R.bind_assoc] at cc
      have en2 : EnvR K mc H2 (wipe σ (t ++ t2)) (wipeE ρ (t ++ t2)) := ((en.mono r (G1.trans G2))).wipe _
      cases ha : asg t items[i] (wipeE ρ (t ++ t2)) with
      | none => rw [ha] at cc; exact False.elim cc
      | some ρ1 =>
        rw [ha] at cc
        rw [lft_some, R.bind_ok, R.bind_assoc] at cc
        refine ⟨mc, Sc, items[i], _, ρ1, r2, en2, hx, ha, fun σ2 en3 hw => ⟨wipe_part hw, ?_⟩⟩
        refine ⟨mc, Sc, ρ1, r2, en3, fun m3 H3 b g3 r3 hb => ?_⟩
        cases hb
        rw [if_pos rfl]
        have q3 : H3 q = some (.lst acc) := g3.fr q _ hqc q2
        have hq3 : q ∉ m3 := g3.notIn hqc (by rw [q2]; simp)
        have hd3 : DVs K m3 H3 acc ds := (hds.mono rc g2).mono r2 g3
        refine ⟨m3, Sc, ρ1, r3, en3.mono r2 g3, (Cont.bind0 (RV := SR K) cc m3 H3).imp fun J1 H4 ⟨s4, m4, S4, g4, r4, sr4, c4⟩ => ?_⟩
        have q4 : H4 q = some (.lst acc) := g4.fr q _ hq3 q3
        have hq4 : q ∉ m4 := g4.notIn hq3 (by rw [q3]; simp)
        have hd4 := hd3.mono r3 g4
        have en4 := (en3.mono r2 g3).mono r3 g4
        have G4 := (G2.trans g3).trans g4
        obtain ⟨it4, w4⟩ := s4
        obtain ⟨hlen4, sr4⟩ := sr4
        replace hlen4 : it4.length ≤ sizeLine := hlen4
        simp only [R.bind_assoc, R.bind_ok] at c4
        replace c4 : Cont K (DV K) ((compL w4 (stepC fk fe t2 ρ1) it4 S4).bind fun vs S => (flatL w (step2 fi2 fk fe t t2 ρ) (items.drop (i + 1)) S).bind fun r S => allocB (ds ++ (vs ++ r)) S) m1 H1 Q := c4
        refine ⟨fun j k Hj => k = it4.length - j ∧ j ≤ it4.length ∧ ∃ mj Sj aj l, Gro m1 mj H1 Hj ∧ GroW m4 mj H4 Hj ∧ Rl K mj Sj Hj ∧ q ∉ mj ∧ Hj q = some (.lst aj) ∧ DVs K mj Hj aj (ds ++ l) ∧
          Cont K (DV K) ((compL w4 (stepC fk fe t2 ρ1) (it4.drop j) Sj).bind fun vs S => (flatL w (step2 fi2 fk fe t t2 ρ) (items.drop (i + 1)) S).bind fun r S => allocB (ds ++ (l ++ vs ++ r)) S) m1 H1 Q,
          ⟨it4.length, rfl, Nat.zero_le _, m4, S4, acc, [], G4, (Gro.refl _ _).w, r4, hq4, q4, by rw [List.append_nil]; exact hd4, by simpa only [List.nil_append, List.drop_zero] using c4⟩, ?_⟩
        rintro j k Hj ⟨rfl, hj, mj, Sj, aj, l, Gj, Gw, rj, hqj, qj, hdj, cj⟩
        by_cases hltj : j < it4.length
        · have hdrop : it4.drop j = it4[j] :: it4.drop (j + 1) := List.drop_eq_getElem_cons hltj
          rw [hdrop] at cj
          unfold compL at cj
          by_cases hgj : Src.good w4 Sj
          · rw [if_pos hgj] at cj
            obtain ⟨_, s5⟩ := sr4 j mj Sj Hj Gw rj hgj
            obtain ⟨hgo5, hy5⟩ := s5 it4[j] (List.getElem?_eq_getElem hltj)
            refine .inr ⟨hgo5, _, fun H' nx => ⟨it4.length - (j + 1), by omega, nx⟩, fun x5 H5 yy5 => ?_⟩
            obtain ⟨g5, r5, hx5⟩ := hy5 x5 H5 yy5
            have q5 : H5 q = some (.lst aj) := g5.fr q _ hqj qj
            rw [R.bind_assoc] at cj
            unfold stepC at cj
            rw [R.bind_assoc] at cj
            have en5 : EnvR K mj H5 (wipe σ2 t2) (wipeE ρ1 t2) := (((en4.monoW r4 Gw).mono rj g5)).wipe t2
            cases ha5 : asg t2 it4[j] (wipeE ρ1 t2) with
            | none => rw [ha5] at cj; exact False.elim cj
            | some ρ' =>
              rw [ha5] at cj
              rw [lft_some, R.bind_ok, R.bind_assoc] at cj
              refine ⟨mj, Sj, it4[j], _, ρ', r5, en5, hx5, ha5, fun σ' en6 hw5 => ⟨by rw [hw5, wipe_idem], ?_⟩⟩
              refine ⟨mj, Sj, ρ', r5, en6, (Cont.bind0 (RV := BR) cj mj H5).imp fun b H6 ⟨b', m6, S6, g6, r6, hb6, c6⟩ => ?_⟩
              cases hb6
              have q6 : H6 q = some (.lst aj) := g6.fr q _ hqj q5
              have hq6 : q ∉ m6 := g6.notIn hqj (by rw [q5]; simp)
              have hd6 := (hdj.mono rj g5).mono r5 g6
              have G6 := (Gj.trans g5).trans g6
              have W6 := (Gw.trans g5.w).trans g6.w
              cases b with
              | false =>
                rw [if_neg (by simp)] at c6 ⊢
                rw [R.bind_ok, R.bind_assoc] at c6
                exact ⟨rfl, hltj, m6, S6, aj, l, G6, W6, r6, hq6, q6, hd6, c6⟩
              | true =>
                rw [if_pos rfl] at c6 ⊢
                rw [R.bind_assoc] at c6
                refine ⟨m6, S6, ρ', r6, en6.mono r5 g6, (Cont.bind0 (RV := DV K) c6 m6 H6).imp fun y H7 ⟨v, m7, S7, g7, r7, hv, c7⟩ => ?_⟩
                have q7 : H7 q = some (.lst aj) := g7.fr q _ hq6 q6
                have hq7 : q ∉ m7 := g7.notIn hq6 (by rw [q6]; simp)
                have hd7 := hd6.mono r6 g7
                rw [R.bind_ok, R.bind_assoc] at c7
                simp only [R.bind_ok] at c7
                replace c7 : Cont K (DV K) ((compL w4 (stepC fk fe t2 ρ1) (it4.drop (j + 1)) S7).bind fun vs S => (flatL w (step2 fi2 fk fe t t2 ρ) (items.drop (i + 1)) S).bind fun r S => allocB (ds ++ (l ++ v :: vs ++ r)) S) m1 H1 Q := c7
                have hal : aj.length = (ds ++ l).length := hdj.length
                have room : aj.length < sizeLine := by
                  obtain ⟨_, _, e1⟩ := c7.get
                  obtain ⟨vs, _, _, e2⟩ := bind_get e1
                  obtain ⟨rr, _, _, e3⟩ := bind_get e2
                  unfold allocB at e3
                  split at e3
                  · rename_i hle
                    rw [hal, ← max_line]
                    simp only [List.length_append, List.length_cons] at hle ⊢
                    omega
                  · cases e3
                refine ⟨aj, q7, room, rfl, hltj, m7, S7, aj ++ [y], l ++ [v], (G6.trans g7).put0 hq, (W6.trans g7.w).trans (GroW.put q7 hq7), r7.other hq7 q7 ?_, hq7, upd_same, ?_, ?_⟩
                · simp; omega
                · rw [← List.append_assoc]
                  exact DVs.upd' q7 (hd7.append (.cons hv .nil))
                · simpa only [List.append_assoc, List.singleton_append, List.cons_append, List.nil_append] using c7
          · rw [if_neg hgj] at cj
            exact False.elim cj
        · have hj : j = it4.length := by omega
          subst hj
          rw [List.drop_length] at cj
          unfold compL at cj
          by_cases hgj : Src.good w4 Sj
          · rw [if_pos hgj, R.bind_ok] at cj
            simp only [List.append_nil] at cj
            obtain ⟨s5, _⟩ := sr4 it4.length mj Sj Hj Gw rj hgj
            exact .inl ⟨s5 (Nat.le_refl _), rfl, hlt, mj, Sj, aj, ds ++ l, Gj, rj, hqj, qj, hdj, by simpa only [List.append_assoc] using cj⟩
          · rw [if_neg hgj] at cj
            exact False.elim cj
    · rw [if_neg hg] at cc
      exact False.elim cc
  · have hi : i = items.length := by omega
    subst hi
    rw [List.drop_length] at cc
    unfold flatL at cc
    by_cases hg : Src.good w Sc
    · rw [if_pos hg, R.bind_ok, List.append_nil] at cc
      unfold allocB at cc
      split at cc
      · obtain ⟨s1, _⟩ := sr items.length mc Sc Hc G.w rc hg
        refine .inl ⟨s1 (Nat.le_refl _), ?_⟩
        refine cc (mc ++ [q]) Hc (.ref q) ?_ (rc.plus hqc hqv hds) (.ref (by rw [← rc.len]; simp))
        obtain ⟨⟨tt, rfl, ht⟩, f, d⟩ := G
        refine ⟨⟨tt ++ [q], by simp, fun a ha => ?_⟩, f, d⟩
        rcases List.mem_append.mp ha with ha | ha
        · exact ht a ha
        · have : a = q := by simpa using ha
          rw [this]; exact hq
      · exact False.elim cc
    · rw [if_neg hg] at cc
      exact False.elim cc
end
end PV

namespace PV
open PySem PySem.Spec PyProof.Rows L2
section
variable {X : Cx} {C : CS} {c : Ctx} {k : Nat} {fnb : Str → Bool}
def Both (X : Cx) (e : Expr) (μ : Mean) : Prop := PE X e (tEv X.K μ.ev) ∧ PT X e (tTe X.K μ.te)
theorem both_of {e : Expr} {f : Env → Sto → R D} (h : PE X e (tEv X.K f)) (he : ∀ whole, isTrue e X.env whole = (do let v ← whole; standAt e.pos; holding [v] (truthy v))) : Both X e (Mean.of f) := ⟨h, pt_of h he⟩
theorem tEv.ret {K : PySem.W.Frag} {σ : Sg} {H : Hp} {Q : VK} {d : D} {v : V} (h : tEv K (fun _ S => .ok d S) σ H Q) (hv : ∀ m H, DV K m H v d) : Q v H := let ⟨m, S, ρ, r, e, c⟩ := h; c.done r (hv m H)
theorem gl_of {x : Str} (h : glb X.env.scope x = true) : Gl X x := by
  unfold glb at h
  split at h
  · assumption
  · cases h
theorem vis_of {sc : Scope} {x : Str} (h : vis sc x = true) : Vis sc x := by
  unfold vis at h
  split at h
  · exact .inl (by assumption)
  · exact .inr (.inl (by assumption))
  · exact .inr (.inr (by assumption))
  · cases h
theorem ok_name {x : Str} (h : okName x = true) : (x == ("__debug__" : Str)) = false ∧ (x == ("__classdict__" : Str)) = false ∧ x ≠ "__name__" := by
  unfold okName at h
  simp only [Bool.and_eq_true, decide_eq_true_eq] at h
  exact ⟨by simp [h.1.1], by simp [h.1.2], h.2⟩
/-! names, constants -/
theorem e_var {x : Str} {pos : Pos} {i : Nat} (h1 : okName x = true) (h2 : vis X.env.scope x = true) (h3 : X.N[i]? = some x) : PE X (.Name x pos) (tEv X.K (sem c (.var i)).ev) := by
  obtain ⟨a1, a2, _⟩ := ok_name h1
  refine PE.wk (pe_var h3 (vis_of h2) a1 a2) fun σ H Q ⟨m, S, ρ, r, e, cc⟩ => ?_
  have cc : Cont X.K (DV X.K) (match ρ[i]? with
    | some (some d) => .ok d S
    | _ => .bad) m H Q := cc
  cases hr : ρ[i]? with
  | none => rw [hr] at cc; exact False.elim cc
  | some o =>
    cases o with
    | none => rw [hr] at cc; exact False.elim cc
    | some d =>
      rw [hr] at cc
      obtain ⟨v, q1, q2⟩ := e.2 i d hr
      exact ⟨v, q1, Cont.done (a := d) cc r q2⟩
theorem e_op {op : Operator} {g : D → D → Sto → R D} {a b : Expr} {pos : Pos} {fa fb : Env → Sto → R D} (h : OpR X (binaryOp op) (r2 X.K g)) (ha : PE X a (tEv X.K fa)) (hb : PE X b (tEv X.K fb)) :
    PE X (.BinOp a op b pos) (tEv X.K fun ρ S => (fa ρ S).bind fun x S => (fb ρ S).bind fun y S => g x y S) :=
  PE.wk (pe_op h ha hb) fun σ H Q ⟨m, S, ρ, r, e, c⟩ => rd2 (RV := DV X.K) r e c
theorem bl_bind {α : Type} {r : R α} {g : α → Sto → R D} (h : ∀ a S d S', g a S = .ok d S' → ∃ b, d = .bl b) : ∀ d S', r.bind g = .ok d S' → ∃ b, d = .bl b := fun d S' e => by
  cases r with
  | ok a S => exact h a S d S' e
  | exc _ _ _ => cases e
  | bad => cases e
theorem bl_ok {b : Bool} {S : Sto} : ∀ d S', R.ok (D.bl b) S = .ok d S' → ∃ b, d = .bl b := fun d S' e => by cases e; exact ⟨b, rfl⟩
theorem both_cmp {op : CmpOp} {g : D → D → Sto → R D} {a b : Expr} {pos : Pos} {fa fb : Env → Sto → R D} (h : OpR X (compareOp op) (r2 X.K g)) (hg : ∀ x y S d S', g x y S = .ok d S' → ∃ b, d = .bl b) (ha : PE X a (tEv X.K fa)) (hb : PE X b (tEv X.K fb)) (hm : behindInMarks op b = false) :
    Both X (.Compare a [op] [b] pos) (Mean.of fun ρ S => (fa ρ S).bind fun x S => (fb ρ S).bind fun y S => g x y S) :=
  ⟨PE.wk (pe_cmpR h ha hb hm) fun σ H Q ⟨m, S, ρ, r, e, c⟩ => rd2 (RV := DV X.K) r e c,
   PT.wk (pt_cmpR h ha hb hm) fun σ H Q ⟨m, S, ρ, r, e, c⟩ => rd2 (RV := DV X.K) r e (asTest (bl_bind fun _ _ => bl_bind fun _ _ => hg _ _ _) c)⟩
def chainR (o1 o2 : Cop) (fa fb fc : Env → Sto → R D) : Env → Sto → R D := fun ρ S => (fa ρ S).bind fun x S => (fb ρ S).bind fun y S => (lft (cmpD o1 x y S) S).bind fun t S =>
      if t = true then (fc ρ S).bind fun z S => (lft (cmpD o2 y z S) S).bind fun t S => .ok (.bl t) S else .ok (.bl false) S
theorem chain_rd {o1 o2 : Cop} {fa fb fc : Env → Sto → R D} {σ : Sg} {H : Hp} {Q : VK} (h : tEv X.K (chainR o1 o2 fa fb fc) σ H Q) : tChain (r2 X.K (cmpR o1)) (r2 X.K (cmpR o2)) (tEv X.K fa) (tEv X.K fb) (tEv X.K fc) σ H Q := by
  obtain ⟨m, S, ρ, r, e, cc⟩ := h
  refine (rd1 (RV := DV X.K) (g := fun x ρ S => (fb ρ S).bind fun y S => (lft (cmpD o1 x y S) S).bind fun t S =>
      if t = true then (fc ρ S).bind fun z S => (lft (cmpD o2 y z S) S).bind fun t S => .ok (.bl t) S else .ok (.bl false) S) r e cc).mono fun v H1 ⟨m1, S1, x, r1, e1, hv, c1⟩ => ?_
  refine ⟨m1, S1, ρ, r1, e1, (Cont.bind (RV := DV X.K) c1).imp fun u H2 ⟨y, m2, S2, G2, r2, hu, c2⟩ => ?_⟩
  have hv2 := hv.mono r1 G2
  have e2 := e1.mono r1 G2
  cases ht : cmpD o1 x y S2 with
  | none => rw [ht] at c2; exact False.elim c2
  | some t =>
    rw [ht, lft_some, R.bind_ok] at c2
    refine ⟨m2, S2, x, y, r2, hv2, hu, ?_⟩
    unfold cmpR
    rw [ht, lft_some, R.bind_ok]
    intro m3 H3 b G3 r3 hb
    cases hb
    refine ⟨t, rfl, ?_⟩
    cases t with
    | false =>
      rw [if_neg (by simp)] at c2 ⊢
      exact c2 m3 H3 _ G3 r3 (.bl _)
    | true =>
      rw [if_pos rfl] at c2 ⊢
      exact ⟨m3, S2, ρ, r3, e2.mono r2 G3, (Cont.bind (RV := DV X.K) (c2.mono G3)).imp fun w H4 ⟨z, m4, S4, G4, r4, hw, c4⟩ => ⟨m4, S4, y, z, r4, (hu.mono r2 G3).mono r3 G4, hw, c4⟩⟩
theorem chain_bl {o1 o2 : Cop} {fa fb fc : Env → Sto → R D} {ρ : Env} {S : Sto} : ∀ d S', chainR o1 o2 fa fb fc ρ S = .ok d S' → ∃ b, d = .bl b :=
  bl_bind fun _ _ => bl_bind fun _ _ => bl_bind fun t S => by
    split
    · exact bl_bind fun _ _ => bl_bind fun _ _ => bl_ok
    · exact bl_ok
theorem both_chain {p q : CmpOp} {o1 o2 : Cop} {a b d : Expr} {pos : Pos} {fa fb fc : Env → Sto → R D} (h1 : OpR X (compareOp p) (r2 X.K (cmpR o1))) (h2 : OpR X (compareOp q) (r2 X.K (cmpR o2))) (ha : PE X a (tEv X.K fa)) (hb : PE X b (tEv X.K fb)) (hc : PE X d (tEv X.K fc)) (hm : lastMarks [p, q] [b, d] = false) :
    Both X (.Compare a [p, q] [b, d] pos) (Mean.of (chainR o1 o2 fa fb fc)) :=
  ⟨PE.wk (pe_chain h1 h2 ha hb hc hm) fun σ H Q h => chain_rd h,
   PT.wk (pt_chain h1 h2 ha hb hc hm) fun σ H Q ⟨m, S, ρ, r, e, cc⟩ => chain_rd ⟨m, S, ρ, r, e, asTest chain_bl cc⟩⟩
theorem both_isN {a : Expr} {j : Nat} {pos pos' : Pos} {fa : Env → Sto → R D} (ha : PE X a (tEv X.K fa)) : Both X (.Compare a [.Is] [.Constant .none j pos'] pos) (Mean.of fun ρ S => (fa ρ S).bind fun x S => .ok (.bl (match x with
    | .non => true
    | _ => false)) S) := by
  have key : ∀ {σ : Sg} {H : Hp} {Q : VK}, tEv X.K (fun ρ S => (fa ρ S).bind fun x S => .ok (.bl (match x with
    | .non => true
    | _ => false)) S) σ H Q → tIsN (tEv X.K fa) σ H Q := fun {σ H Q} ⟨m, S, ρ, r, e, cc⟩ =>
    (rd1 (RV := DV X.K) (g := fun x _ S => .ok (.bl (match x with
    | .non => true
    | _ => false)) S) r e cc).mono fun v H1 ⟨m1, S1, x, r1, e1, hv, c1⟩ => by
      have q := c1.done r1 (.bl _)
      cases hv <;> exact q
  exact ⟨PE.wk (pe_cmp (pc_isN ha)) fun σ H Q h => key h, PT.wk (pt_cmp (pc_isN ha)) fun σ H Q ⟨m, S, ρ, r, e, cc⟩ => key ⟨m, S, ρ, r, e, asTest (bl_bind fun _ _ => bl_ok) cc⟩⟩
theorem both_notN {a : Expr} {j : Nat} {pos pos' : Pos} {fa : Env → Sto → R D} (ha : PE X a (tEv X.K fa)) : Both X (.Compare a [.IsNot] [.Constant .none j pos'] pos) (Mean.of fun ρ S => (fa ρ S).bind fun x S => .ok (.bl (match x with
    | .non => false
    | _ => true)) S) := by
  have key : ∀ {σ : Sg} {H : Hp} {Q : VK}, tEv X.K (fun ρ S => (fa ρ S).bind fun x S => .ok (.bl (match x with
    | .non => false
    | _ => true)) S) σ H Q → tNotN (tEv X.K fa) σ H Q := fun {σ H Q} ⟨m, S, ρ, r, e, cc⟩ =>
    (rd1 (RV := DV X.K) (g := fun x _ S => .ok (.bl (match x with
    | .non => false
    | _ => true)) S) r e cc).mono fun v H1 ⟨m1, S1, x, r1, e1, hv, c1⟩ => by
      have q := c1.done r1 (.bl _)
      cases hv <;> exact q
  exact ⟨PE.wk (pe_cmp (pc_notN ha)) fun σ H Q h => key h, PT.wk (pt_cmp (pc_notN ha)) fun σ H Q ⟨m, S, ρ, r, e, cc⟩ => key ⟨m, S, ρ, r, e, asTest (bl_bind fun _ _ => bl_ok) cc⟩⟩
/-! not, minus -/
def notR (x : D) (S : Sto) : R D := (lft (truthD x S) S).bind fun t S => .ok (.bl (!t)) S
theorem u_not : UnR X (unaryOp .Not) (r1 X.K notR) := by
  intro pins s σ H v v' Q I rv ⟨m, S, x, r, hx, cc⟩
  refine PyProof.Rows.not_of (thn (t_truth pins s σ H v v' (fun t H => Q (.bl (!t)) H) I rv ⟨m, S, x, r, hx, ?_⟩) fun t s1 ⟨H1, I1, q⟩ => ⟨.bl (!t), H1, I1, rfl, q⟩)
  exact (Cont.bind (RV := BR) cc).imp fun v H1 ⟨x, m1, S1, G, r1, h1, c1⟩ => by cases h1; exact c1.done r1 (.bl _)
theorem both_not {a : Expr} {pos : Pos} {μ : Mean} (h : Both X a μ) :
    Both X (.UnaryOp .Not a pos) (Mean.ofTe (fun ρ S => (μ.ev ρ S).bind fun x S => notR x S) (fun ρ S => (μ.te ρ S).bind fun t S => .ok (!t) S)) :=
  ⟨PE.wk (pe_un u_not h.1) fun σ H Q ⟨m, S, ρ, r, e, cc⟩ => (rd1 (RV := DV X.K) (g := fun x _ S => notR x S) r e cc).mono fun v H1 ⟨m1, S1, x, r1, _, hv, c1⟩ => ⟨m1, S1, x, r1, hv, c1⟩,
   PT.wk (pt_not h.2) fun σ H Q ⟨m, S, ρ, r, e, cc⟩ => ⟨m, S, ρ, r, e, (Cont.bind (RV := BR) cc).imp fun v H1 ⟨x, m1, S1, G, r1, h1, c1⟩ => by cases h1; exact c1.done r1 rfl⟩⟩
theorem e_neg {a : Expr} {pos : Pos} {fa : Env → Sto → R D} (ha : PE X a (tEv X.K fa)) : PE X (.UnaryOp .USub a pos) (tEv X.K fun ρ S => (fa ρ S).bind fun x S => (match x with
    | .int i => .ok (.int (-i)) S
    | _ => .bad)) :=
  PE.wk (pe_un u_neg ha) fun σ H Q ⟨m, S, ρ, r, e, cc⟩ => (rd1 (RV := DV X.K) (g := fun x _ S => negR x S) r e cc).mono fun v H1 ⟨m1, S1, x, r1, _, hv, c1⟩ => ⟨m1, S1, x, r1, hv, c1⟩
/-! and, or -/
def andV (f g : Env → Sto → R D) : Env → Sto → R D := fun ρ S => (f ρ S).bind fun x S => (match x with
      | .bl true => g ρ S
      | .bl false => .ok (.bl false) S
      | _ => .bad)
def orV (f g : Env → Sto → R D) : Env → Sto → R D := fun ρ S => (f ρ S).bind fun x S => (match x with
      | .bl false => g ρ S
      | .bl true => .ok (.bl true) S
      | _ => .bad)
def andT (f g : Env → Sto → R Bool) : Env → Sto → R Bool := fun ρ S => (f ρ S).bind fun t S => if t = true then g ρ S else .ok false S
def orT (f g : Env → Sto → R Bool) : Env → Sto → R Bool := fun ρ S => (f ρ S).bind fun t S => if t = true then .ok true S else g ρ S
theorem e_and {a b : Expr} {rest : List Expr} {pos : Pos} {f g : Env → Sto → R D} (ha : PE X a (tEv X.K f)) (hb : PE X (.BoolOp .And (b :: rest) pos) (tEv X.K g)) : PE X (.BoolOp .And (a :: b :: rest) pos) (tEv X.K (andV f g)) :=
  PE.wk (pe_and ha hb) fun σ H Q ⟨m, S, ρ, r, e, cc⟩ => (rd1 (RV := DV X.K) (g := fun x ρ S => (match x with
      | .bl true => g ρ S
      | .bl false => .ok (.bl false) S
      | _ => .bad)) r e cc).mono fun v H1 ⟨m1, S1, x, r1, e1, hv, c1⟩ => by
    cases hv with
    | bl b => cases b with
      | true => exact ⟨true, rfl, iteT ⟨m1, S1, ρ, r1, e1, c1⟩⟩
      | false => exact ⟨false, rfl, iteF (Cont.done c1 r1 (.bl _))⟩
    | _ => exact False.elim c1
theorem e_or {a b : Expr} {rest : List Expr} {pos : Pos} {f g : Env → Sto → R D} (ha : PE X a (tEv X.K f)) (hb : PE X (.BoolOp .Or (b :: rest) pos) (tEv X.K g)) : PE X (.BoolOp .Or (a :: b :: rest) pos) (tEv X.K (orV f g)) :=
  PE.wk (pe_or ha hb) fun σ H Q ⟨m, S, ρ, r, e, cc⟩ => (rd1 (RV := DV X.K) (g := fun x ρ S => (match x with
      | .bl false => g ρ S
      | .bl true => .ok (.bl true) S
      | _ => .bad)) r e cc).mono fun v H1 ⟨m1, S1, x, r1, e1, hv, c1⟩ => by
    cases hv with
    | bl b => cases b with
      | false => exact ⟨false, rfl, iteF ⟨m1, S1, ρ, r1, e1, c1⟩⟩
      | true => exact ⟨true, rfl, iteT (Cont.done c1 r1 (.bl _))⟩
    | _ => exact False.elim c1
theorem w_and {a b : Expr} {rest : List Expr} {pos : Pos} {f g : Env → Sto → R Bool} (ha : PT X a (tTe X.K f)) (hb : PW X (.BoolOp .And (b :: rest) pos) (tTe X.K g)) : PW X (.BoolOp .And (a :: b :: rest) pos) (tTe X.K (andT f g)) :=
  PW.wk (pw_and ha hb) fun σ H Q ⟨m, S, ρ, r, e, cc⟩ => by
    have h := rdT (RV := BR) (g := fun t ρ S => if t = true then g ρ S else .ok false S) r e cc
    obtain ⟨m, S, ρ', r, e, cc⟩ := h
    refine ⟨m, S, ρ', r, e, cc.imp fun t H1 ⟨m1, S1, r1, e1, c1⟩ => ?_⟩
    cases t with
    | true => exact iteT ⟨m1, S1, ρ, r1, e1, c1⟩
    | false => exact iteF (Cont.done c1 r1 rfl)
theorem w_or {a b : Expr} {rest : List Expr} {pos : Pos} {f g : Env → Sto → R Bool} (ha : PT X a (tTe X.K f)) (hb : PW X (.BoolOp .Or (b :: rest) pos) (tTe X.K g)) : PW X (.BoolOp .Or (a :: b :: rest) pos) (tTe X.K (orT f g)) :=
  PW.wk (pw_or ha hb) fun σ H Q ⟨m, S, ρ, r, e, cc⟩ => by
    have h := rdT (RV := BR) (g := fun t ρ S => if t = true then .ok true S else g ρ S) r e cc
    obtain ⟨m, S, ρ', r, e, cc⟩ := h
    refine ⟨m, S, ρ', r, e, cc.imp fun t H1 ⟨m1, S1, r1, e1, c1⟩ => ?_⟩
    cases t with
    | true => exact iteT (Cont.done c1 r1 rfl)
    | false => exact iteF ⟨m1, S1, ρ, r1, e1, c1⟩
theorem e_ite {t a b : Expr} {pos : Pos} {ft : Env → Sto → R Bool} {f g : Env → Sto → R D} (ht : PT X t (tTe X.K ft)) (ha : PE X a (tEv X.K f)) (hb : PE X b (tEv X.K g)) :
    PE X (.IfExp t a b pos) (tEv X.K fun ρ S => (ft ρ S).bind fun t S => if t = true then f ρ S else g ρ S) :=
  PE.wk (pe_ifExp ht ha hb) fun σ H Q ⟨m, S, ρ, r, e, cc⟩ => by
    have h := rdT (RV := DV X.K) (g := fun t ρ S => if t = true then f ρ S else g ρ S) r e cc
    obtain ⟨m, S, ρ', r, e, cc⟩ := h
    refine ⟨m, S, ρ', r, e, cc.imp fun t H1 ⟨m1, S1, r1, e1, c1⟩ => ?_⟩
    cases t with
    | true => exact iteT ⟨m1, S1, ρ, r1, e1, c1⟩
    | false => exact iteF ⟨m1, S1, ρ, r1, e1, c1⟩
/-! rows of arguments -/
theorem a_nil : PA X [] (tEs X.K fun _ S => .ok [] S) := PA.wk pa_nil fun σ H Q ⟨m, S, ρ, r, e, cc⟩ => Cont.done cc r .nil
theorem a_cons {e : Expr} {es : List Expr} {f : Env → Sto → R D} {g : Env → Sto → R (List D)} (h : PE X e (tEv X.K f)) (hs : PA X es (tEs X.K g)) (hst : starEach (e :: es) X.env = (false, PySem.eval e X.env) :: starEach es X.env) :
    PA X (e :: es) (tEs X.K fun ρ S => (f ρ S).bind fun x S => (g ρ S).bind fun xs S => .ok (x :: xs) S) :=
  PA.wk (pa_cons h hs hst) fun σ H Q ⟨m, S, ρ, r, e, cc⟩ => ⟨m, S, ρ, r, e, (Cont.bind (RV := DV X.K) cc).imp fun v H1 ⟨x, m1, S1, G, r1, hv, c1⟩ =>
    ⟨m1, S1, ρ, r1, e.mono r G, (Cont.bind (RV := DVs X.K) c1).imp fun vs H2 ⟨xs, m2, S2, G2, r2, hvs, c2⟩ => Cont.done c2 r2 (.cons (hv.mono r1 G2) hvs)⟩⟩
theorem star_len {t : List (Bool × Sem Value)} (h : t.any (·.1) = false) (pos : Pos) : (backTo pos t).any (·.1) = false := by
  unfold backTo
  rw [List.any_map]
  exact h
end
end PV

/-! tuple(reversed(a tuple)) -/
namespace RT
open PySem PySem.Spec PyProof.Rows L2
theorem nolen_rt : typeLookup (.type "reversed") "__len__" = pure none := by rw [typeLookup_type, builtinLookup_eq_fast]; kernel_rfl
theorem slot_rt_hint : Slot "reversed" "__length_hint__" "reversed.__length_hint__" :=
  .of (owner := "reversed") (n := "__length_hint__") (by rw [typeLookup_type, builtinLookup_eq_fast]; kernel_rfl) (by decide +kernel) (by decide +kernel) (by decide +kernel)
    (by first | exact .inl (by decide +kernel) | exact .inr (by decide +kernel)) (by rw [isSubtype_type]; kernel_rfl)
theorem entry_rt_hint : entryFor table "reversed.__length_hint__" = some Builtin.«reversed.__length_hint__» := entryFor_of_tree (by kernel_rfl)
theorem args_rt_hint (a : Value) : argsOk "reversed.__length_hint__" ⟨[a], []⟩ := by
  unfold argsOk; rw [signature?_of (id := "reversed.__length_hint__") (n := ['_', '_', 't', 'n', 'i', 'h', '_', 'h', 't', 'g', 'n', 'e', 'l', '_', '_']) (o := ['d', 'e', 's', 'r', 'e', 'v', 'e', 'r']) (by kernel_rfl) owner_rt]; kernel_rfl
section
variable {prog : Program} {w : World} {A : Around} {E : Value → Shared → Prop} {s : Shared}
theorem walksRt (hh : A.handled = none) (I t : Addr) (hne : t ≠ I) (items : Array Value) (hsz : items.size ≤ sizeLine) :
    Walks prog w A I [I, t] [I] items.size (fun i v => items[items.size - 1 - i]? = some v) (fun i h => i ≤ items.size ∧ IsRt h I t ((items.size : Int) - 1 - (i : Int)) ∧ IsTup h t items) where
  sub := fun b hb => by simp at hb; simp [hb]
  frame := fun _ _ _ x hk => ⟨x.1, x.2.1.at fun o e => hk I (by simp) o e, let ⟨o, ho, r⟩ := x.2.2; ⟨o, hk t (by simp) o ho, r⟩⟩
  item := fun i s Q E hi x hQ => by
    have e : (items.size : Int) - 1 - (i : Int) = ((items.size - 1 - i : Nat) : Int) := by omega
    have hit := x.2.1
    rw [e] at hit
    have hx : items[items.size - 1 - i]? = some (items[items.size - 1 - i]'(by omega)) := Array.getElem?_eq_getElem (by omega)
    refine next_rt_item hit x.2.2 hx hsz fun h' hit' hs' => ?_
    have e2 : ((items.size - 1 - i : Nat) : Int) - 1 = (items.size : Int) - 1 - ((i + 1 : Nat) : Int) := by omega
    rw [e2] at hit'
    obtain ⟨o, ho, r⟩ := x.2.2
    exact hQ _ h' (s.toks + 1) hx ⟨hi, hit', ⟨o, (hs'.2 t hne).trans ho, r⟩⟩ fun b o hb eo => (hs'.2 b (fun h => hb (by simp [h]))).trans eo
  done := fun s Q E x hQ => by
    have e : (items.size : Int) - 1 - (items.size : Int) = -1 := by omega
    have hit := x.2.1
    rw [e] at hit
    exact next_rt_end hh hit fun h' he' => hQ h' s.toks fun b o hb eo => he' b o (fun h => hb (by simp [h])) eo
  self := fun _ _ _ _ x hQ => iter_rt x.2.1 hQ
theorem hint_rt {it t : Addr} {items : Array Value} {Q : Value → Shared → Prop} (hit : IsRt s.heap it t ((items.size : Int) - 1)) (ht : IsTup s.heap t items) (hsz : items.size ≤ sizeLine)
    (hQ : ∀ tk a, s.toks ≤ tk → Q (.int items.size a) { s with toks := tk }) : wpAny (model prog w) A (call (.builtin "reversed.__length_hint__") [.ref it]) Q E s := by
  obtain ⟨o, ho, hc, hd⟩ := id hit
  refine wpAny_call_entry slot_rt_hint hit.typeIs entry_rt_hint ?_ (args_rt_hint _)
  unfold Builtin.«reversed.__length_hint__»
  refine wpAny_bind (wpAny_of_eq (a := Value.ref it) rfl ?_)
  refine wpAny_bind (wpAny_field ho hd (x := .ref t) rfl ?_)
  rw [if_neg (by simp [BEq.beq])]
  refine wpAny_bind (len_tuple ht (by have h := hsz; rw [sizeLine_eq] at h; omega) ?_)
  refine wpAny_bind (wpAny_of_eq (a := some (items.size : Int)) rfl ?_)
  try dsimp only
  refine wpAny_bind (wpAny_field (s := { s with toks := s.toks + 1 + 1 }) ho hd (x := rawInt ((items.size : Int) - 1)) rfl ?_)
  show wpAny _ _ (if ((items.size : Int) < (items.size : Int) - 1 + 1) then _ else _) _ _ _
  rw [if_neg (by omega)]
  rw [show (items.size : Int) - 1 + 1 = items.size by omega]
  have hh : ∀ tk, s.toks ≤ tk → wpAny (model prog w) A.in1 (retInt (items.size : Int)) (fun fin s' => ∃ v, fin = .done (.ret v) ∧ Q v s') E { s with toks := tk } := fun tk ht => by
    unfold retInt
    refine wpAny_bind (wpAny_mkInt ?_)
    exact wpAny_pure ⟨_, rfl, hQ _ _ (by show s.toks ≤ tk + 1; omega)⟩
  exact hh _ (by omega)
theorem hint_of {it t : Addr} {items : Array Value} {Q : Bool → Shared → Prop} (hit : IsRt s.heap it t ((items.size : Int) - 1)) (ht : IsTup s.heap t items) (hsz : items.size ≤ sizeLine)
    (hQ : ∀ tk b, s.toks ≤ tk → Q b { s with toks := tk }) : wpAny (model prog w) A (Builtin.List.listLengthHint (.ref it)) Q E s := by
  have hT := hit.typeIs
  unfold Builtin.List.listLengthHint
  refine wpAny_bind (wpAny_specialOf hT nolen_rt ?_)
  show wpAny _ A (specialOf (Value.ref it) (Str.ofString "__length_hint__") >>= _) _ _ _
  refine wpAny_bind (wpAny_specialOf hT slot_rt_hint.lookup ?_)
  generalize hid : ("reversed.__length_hint__" : String) = id0
  wp_delta
  rw [show splitId id0 = some ("reversed", "__length_hint__") from by subst hid; decide +kernel]
  refine wpAny_bind (wpAny_isInstance (b := true) hT (by rw [isSubtype_type]; kernel_rfl) ?_)
  rw [if_neg (by decide)]
  try dsimp only
  rw [if_neg (by subst hid; decide +kernel)]
  refine wpAny_bind (wpAny_rule ?_)
  refine wpAny_bind (wpAny_of_eq (by subst hid; exact slot_rt_hint.bind (.ref it)) ?_)
  subst hid
  try dsimp only
  refine wpAny_bind (wpAny_attempt (hint_rt hit ht hsz fun tk a htk => ?_))
  have hz : items.size ≤ 16777216 := by have h := hsz; rw [sizeLine_eq] at h; exact h
  generalize hn : ((items.size : Nat) : Int) = n
  have hn0 : 0 ≤ n := by omega
  have hn1 : n ≤ 16777216 := by omega
  have e1 : (!Builtin.List.listFitsIndex n) = false := by
    unfold Builtin.List.listFitsIndex
    rw [decide_eq_true (by omega), decide_eq_true (by omega)]
    rfl
  have e2 : Builtin.List.listTooLong n.toNat = false := by
    unfold Builtin.List.listTooLong
    rw [sizeLine_eq]
    exact decide_eq_false (by omega)
  refine wpAny_bind (m := asInt? (Value.int n a)) (wpAny_of_eq (a := some n) rfl ?_)
  try dsimp only
  rw [e1, if_neg (by decide), if_neg (by omega), e2, if_neg (by decide)]
  exact wpAny_pure (hQ tk _ htk)
theorem collect_rt {it l : Addr} {items : Array Value} {Q : List Value → Shared → Prop} (hh : A.handled = none) (hit : IsRt s.heap it l ((items.size : Int) - 1)) (hl : IsTup s.heap l items) (hne : l ≠ it) (hn : items.size ≤ sizeLine)
    (hQ : ∀ (h' : Heap) (tk : Nat) (acc : Array Value), (∀ b o, b ≠ it → s.heap.get? b = some o → h'.get? b = some o) → ItemsOf (fun i v => items[items.size - 1 - i]? = some v) acc items.size → Q acc.toList { s with heap := h', toks := tk }) :
    wpAny (model prog w) A (collect (.ref it)) Q E s := by
  have W := (walksRt (prog := prog) (w := w) (A := A.in1) hh it l hne items hn).toS
  obtain ⟨oi, hoi, hoc, hod⟩ := id hit
  obtain ⟨ol, hol, hlr⟩ := id hl
  have hSi : s.heap.objs.size ≠ it := Nat.ne_of_gt (Heap.lt_size hoi)
  have hSl : s.heap.objs.size ≠ l := Nat.ne_of_gt (Heap.lt_size hol)
  have hSf : s.heap.objs.size ∉ [it, l] := by simp only [List.mem_cons, List.not_mem_nil, or_false, not_or]; exact ⟨hSi, hSl⟩
  unfold collect
  refine wpAny_bind (wpAny_runValue (codeAny_builtin F.entry_proto_collect ?_))
  rw [Around.under_plainId F.plain_proto_collect _]
  show wpAny _ A.in1 (newList [] >>= fun l' => again (.builtin "list.__iadd__" ⟨[l', .ref it], []⟩)) _ _ s
  refine wpAny_bind (wpAny_newObj_type ?_)
  refine wpAny_pure ⟨plainId_quiet F.plain_list_iadd _, codeAny_builtin F.entry_list_iadd ?_⟩
  rw [Around.under_plainId F.plain_list_iadd _]
  have hS₁ : (s.heap.push { cls := .type "list", data := .seq ([] : List Value).toArray }).get? s.heap.objs.size = some { cls := .type "list", data := .seq ([] : List Value).toArray } := Heap.get?_push_size _ rfl
  have hit1 : IsRt (s.heap.push { cls := .type "list", data := .seq ([] : List Value).toArray }) it l ((items.size : Int) - 1) := hit.at fun o e => Heap.get?_push_of_some _ e
  have hl1 : IsTup (s.heap.push { cls := .type "list", data := .seq ([] : List Value).toArray }) l items := ⟨ol, Heap.get?_push_of_some _ hol, hlr⟩
  have hT : ({ s with heap := s.heap.push { cls := .type "list", data := .seq ([] : List Value).toArray } } : Shared).TypeIs (.ref it) "reversed" := IsRt.typeIs (s := { s with heap := s.heap.push { cls := .type "list", data := .seq ([] : List Value).toArray } }) hit1
  have h1 : Builtin.List.listSameRef (.ref s.heap.objs.size) (.ref it) = false := by simp [Builtin.List.listSameRef, hSi]
  show wpAny _ A.in1 (Builtin.List.listExtendWith (.ref s.heap.objs.size) (.ref it) (.ref s.heap.objs.size)) _ _ _
  unfold Builtin.List.listExtendWith
  refine wpAny_bind (wpAny_typeOf hT ?_)
  rw [if_neg (by rw [h1]; decide)]
  refine wpAny_bind (iter_rt (s := { s with heap := s.heap.push { cls := .type "list", data := .seq ([] : List Value).toArray } }) hit1 ?_)
  refine wpAny_bind (wpAny_holding ?_)
  refine hint_of (s := { s with heap := s.heap.push { cls := .type "list", data := .seq ([] : List Value).toArray } }) hit1 hl1 hn fun tk b htk => ?_
  have e0 : ((items.size : Nat) : Int) - 1 - ((0 : Nat) : Int) = (items.size : Int) - 1 := by omega
  cases b with
  | false =>
    refine wpAny_pure ⟨plainId_quiet F.plain_extend_loop _, codeAny_extend_loopS W hn _ hSf _ items.size 0 _ _ _ rfl (Nat.zero_le _) ⟨Nat.zero_le _, by rw [e0]; exact hit1, hl1⟩ hS₁ (ItemsOf.nil _) fun s' acc' c' hm hS' hacc => ?_⟩
    show wpAny _ A (load s.heap.objs.size >>= _) _ _ s'
    refine wpAny_bind (wpAny_load hS' ?_)
    refine wpAny_pure ?_
    rw [Moved.eq_with hm]
    refine hQ s'.heap s'.toks acc' (fun b o hb e => hm.heap b o (fun hmem => ?_) (Heap.get?_push_of_some _ e)) hacc
    rcases List.mem_cons.mp hmem with e' | hmem
    · exact absurd (Heap.lt_size e) (by rw [e']; exact Nat.lt_irrefl _)
    · exact hb (List.mem_singleton.mp hmem)
  | true =>
    show wpAny _ A.in1 (rule "list.extend.makes-room" >>= fun _ => Builtin.List.listTouch (.ref s.heap.objs.size) >>= fun _ =>
      again (.builtin "list.extend.loop" ⟨[.ref s.heap.objs.size, .ref it, .ref s.heap.objs.size], []⟩)) _ _ _
    refine wpAny_bind (wpAny_rule ?_)
    refine wpAny_bind ?_
    show wpAny _ A.in1 (updateSeq s.heap.objs.size (·.push .none) >>= fun _ => updateSeq s.heap.objs.size (·.pop)) _ _ _
    refine wpAny_bind (wpAny_updateSeq hS₁ rfl ?_)
    have hS₂ := Heap.get?_update_self (Obj.mapSeq (·.push Value.none)) hS₁ rfl
    refine wpAny_updateSeq hS₂ rfl ?_
    have hS₃ := Heap.get?_update_self (Obj.mapSeq (·.pop)) hS₂ rfl
    have oth : ∀ b o, b ≠ s.heap.objs.size → (s.heap.push { cls := .type "list", data := .seq ([] : List Value).toArray }).get? b = some o →
        (((s.heap.push { cls := .type "list", data := .seq ([] : List Value).toArray }).update s.heap.objs.size (Obj.mapSeq (·.push Value.none))).update s.heap.objs.size (Obj.mapSeq (·.pop))).get? b = some o :=
      fun b o hb e => (Heap.get?_update_other _ _ (Ne.symm hb)).trans ((Heap.get?_update_other _ _ (Ne.symm hb)).trans e)
    refine wpAny_pure ⟨plainId_quiet F.plain_extend_loop _, codeAny_extend_loopS W hn _ hSf _ items.size 0 _ _ _ rfl (Nat.zero_le _) ⟨Nat.zero_le _, by rw [e0]; exact (hit1.at fun o e => oth it o (Ne.symm hSi) e), (let ⟨o, ho, r⟩ := hl1; ⟨o, oth l o (Ne.symm hSl) ho, r⟩)⟩ hS₃ (ItemsOf.nil _) fun s' acc' c' hm hS' hacc => ?_⟩
    show wpAny _ A (load s.heap.objs.size >>= _) _ _ s'
    refine wpAny_bind (wpAny_load hS' ?_)
    refine wpAny_pure ?_
    rw [Moved.eq_with hm]
    refine hQ s'.heap s'.toks acc' (fun b o hb e => hm.heap b o (fun hmem => ?_) (oth b o (Nat.ne_of_lt (Heap.lt_size e)) (Heap.get?_push_of_some _ e))) hacc
    rcases List.mem_cons.mp hmem with e' | hmem
    · exact absurd (Heap.lt_size e) (by rw [e']; exact Nat.lt_irrefl _)
    · exact hb (List.mem_singleton.mp hmem)
theorem code_tuple_new_rt {it l : Addr} {items : Array Value} {Q₁ : Value → Shared → Prop} (hh : A.handled = none) (hit : IsRt s.heap it l ((items.size : Int) - 1)) (hl : IsTup s.heap l items) (hne : l ≠ it) (hn : items.size ≤ sizeLine)
    (h : ∀ (h' : Heap) (tk : Nat) (acc : Array Value), (∀ b o, b ≠ it → s.heap.get? b = some o → h'.get? b = some o) → ItemsOf (fun i v => items[items.size - 1 - i]? = some v) acc items.size →
      Q₁ (.ref h'.objs.size) { s with heap := h'.push { cls := .type "tuple", data := .seq acc }, toks := tk }) :
    codeAny (model prog w) A (.call (.builtin "tuple.__new__") ⟨[.type "tuple", .ref it], []⟩) (wants Q₁ E) s := by
  refine codeAny_of_tree ?_
  show wpAny _ A.in1 (do checkBuiltinCall "tuple.__new__" ⟨[.type "tuple", .ref it], []⟩; again (.builtin "tuple.__new__" ⟨[.type "tuple", .ref it], []⟩)) _ _ s
  refine wpAny_bind (wpAny_of_eq (F.newCall_tuple_1 _) (wpAny_pure ⟨plainId_quiet F.plain_tuple_new _, codeAny_builtin F.entry_tuple_new ?_⟩))
  rw [Around.under_plainId F.plain_tuple_new _]
  have hsub := sub_tuple_self
  have hinit := init_tuple_lookup
  have hmh := madeHere_tuple
  have hTI : s.TypeIs (.ref it) "reversed" := hit.typeIs
  have hh1 : A.in1.handled = none := hh
  wp_walk using wpAny_typeOf hTI, collect_rt (A := A.in1) hh1 hit hl hne hn
  intro h' tk acc hk hacc
  show wpAny _ _ (Builtin.Tuple.tupleExact acc.toList.toArray >>= fun v => ret v) _ _ _
  unfold Builtin.Tuple.tupleExact
  refine wpAny_bind (wpAny_newObj_type ?_ (by show acc.toList.toArray.size ≤ sizeLine; simp only [Array.toArray_toList]; rw [hacc.1]; exact hn))
  refine wpAny_pure ?_
  have e : acc.toList.toArray = acc := by simp
  rw [e]
  exact h h' tk acc hk hacc
theorem call_tuple_rt {it l : Addr} {items : Array Value} {Q : Value → Shared → Prop} (hh : A.handled = none) (hit : IsRt s.heap it l ((items.size : Int) - 1)) (hl : IsTup s.heap l items) (hne : l ≠ it) (hn : items.size ≤ sizeLine)
    (hQ : ∀ (h' : Heap) (tk : Nat) (acc : Array Value), (∀ b o, b ≠ it → s.heap.get? b = some o → h'.get? b = some o) → ItemsOf (fun i v => items[items.size - 1 - i]? = some v) acc items.size →
      Q (.ref h'.objs.size) { s with heap := h'.push { cls := .type "tuple", data := .seq acc }, toks := tk }) :
    wpAny (model prog w) A (call (.type "tuple") [.ref it]) Q E s := by
  refine callType_codes (Q₁ := fun obj s₁ => s₁.TypeIs obj "tuple" ∧ Q obj s₁) F.called_tuple (F.typeCall_tuple_1 _) F.entry_object_init
    (code_tuple_new_rt (A := A.in1) hh hit hl hne hn fun h' tk acc hk hacc => ⟨⟨_, Heap.get?_push_size _ rfl, rfl⟩, hQ h' tk acc hk hacc⟩) fun obj s₁ h₁ => ?_
  exact ⟨h₁.1, F.args_object_init_2 obj _, object_init_meets F.called_tuple.init.lookup F.called_tuple.made (by decide) prog w A.in1 _ s₁ ⟨h₁.1, rfl, h₁.2⟩⟩
end
/-- tuple(reversed(x)), x a tuple: a new tuple -/
def tTupRevT (te : TE) : TE := fun σ H Q => te σ H fun v H1 => ∃ (a : Addr) (xs : List V), v = .ref a ∧ H1 a = some (.tup xs) ∧ ∀ q, H1 q = none → Q (.ref q) (upd H1 q (.tup xs.reverse))
section
variable {X : Cx}
theorem pe_tupRevT {e : Expr} {te : TE} {p p2 pos pos2 : Pos} (hc : X.calm = true) (hg : Gl X "tuple") (hm : X.mg "tuple" = none) (hg2 : Gl X "reversed") (hm2 : X.mg "reversed" = none) (he : PE X e te)
    (hs : starEach [e] X.env = (false, eval e X.env) :: starEach [] X.env := by rfl)
    (hs2 : starEach [.Call (.Name "reversed" p2) [e] [] pos2] X.env = (false, eval (.Call (.Name "reversed" p2) [e] [] pos2) X.env) :: starEach [] X.env := by rfl) :
    PE X (.Call (.Name "tuple" p) [.Call (.Name "reversed" p2) [e] [] pos2] [] pos) (tTupRevT te) := by
  refine ⟨fun pins s σ H Q I h => ?_⟩
  refine Call_ (ld_blt I hg hm boot_tuple (PyProof.Rows.callWith_type1 (args_cons (Call_ (ld_blt I hg2 hm2 PyProof.Rows.boot_reversed (PyProof.Rows.callWith_type1 (args_cons (thn (he.run pins s σ H _ I h) fun u s1 ⟨v, H1, I1, r1, q1⟩ => args_nil ?_) hs) hs rfl))) hs2) hs2 rfl))
  obtain ⟨a, xs, ev, hq, q⟩ := q1
  subst ev
  obtain rfl : u = Value.ref a := r1
  obtain ⟨its, rv, p', hz⟩ := I1.tuple (.inl (.inl hq))
  have hl := rv.length
  have hn := line63
  have hn' : its.toArray.size ≤ sizeLine := by rw [List.size_toArray, ← rv.length]; exact hz
  refine call_reversed_tup p' (fun A E Q k => len_tuple p' (by simp only [List.size_toArray] <;> omega) k) (args_nil ?_)
  have k0 : ∀ b o, s1.heap.get? b = some o → (s1.heap.push (rtObj a ((its.toArray.size : Int) - 1))).get? b = some o := fun b o e => Heap.get?_push_of_some _ e
  have I2 : Inv X pins σ H1 { s1 with heap := s1.heap.push (rtObj a ((its.toArray.size : Int) - 1)), toks := s1.toks + 1 + 1 } := I1.kept (t' := s1.toks + 1 + 1) k0
  obtain ⟨f0, f1, f2, f3, f4, f5⟩ := I1.fpOk (H' := H1) (b := s1.heap.objs.size) (Nat.le_refl _) (I1.hok.fresh (Nat.le_refl _))
  obtain ⟨ol, hol, hlr⟩ := id p'
  have hne : a ≠ s1.heap.objs.size := Nat.ne_of_lt (Heap.lt_size hol)
  refine call_tuple_rt (s := { s1 with heap := s1.heap.push (rtObj a ((its.toArray.size : Int) - 1)), toks := s1.toks + 1 + 1 }) (I1.ok.hd hc) ⟨_, Heap.get?_push_size _ rfl, rfl, rfl⟩ ⟨ol, k0 _ _ hol, hlr⟩ hne hn' fun h' tk acc hk hi => ?_
  have I3 : Inv X pins σ H1 { s1 with heap := h', toks := tk } := I2.turned (t' := tk) (fun b o hb e => hk b o hb e) f0 f1 f3 f4 f5
  refine ⟨.ref h'.objs.size, upd H1 h'.objs.size (.tup xs.reverse), I3.laid (t' := tk) (fun c o e => Heap.get?_push_of_some _ e) (Nat.le_refl _) (show ObjOk X.prog X.w _ _ _ (.tup xs.reverse) from ⟨by rw [List.length_reverse]; exact hz, acc.toList, vals_rev rv hi, ?_⟩), rfl, q _ (I3.hok.fresh (Nat.le_refl _))⟩
  rw [Array.toArray_toList]
  exact IsTup.new _ _
end
end RT

namespace PV
open PySem PySem.Spec PyProof.Rows L2
/-! ### set(xs), xs a list of ints -/
def fresh0 (w : World) : Obj := { cls := .type "set", dict := none, data := .set #[] 0 (.fresh 0 0 (!w.params.followText "set-order")) }
section
variable {P : Program} {w : World} {A : Around} {E : Value → Shared → Prop} {s : Shared}
theorem setOfList {q : Addr} {row : Array Value} (ns : List Int) {Q : Value → Shared → Prop} (hh : A.handled = none) (hl : s.heap.IsList q row) (hit : IntsAre row.toList ns) (hb : ns.length + 1 < scanBound)
    (fin : ∀ (h' : Heap) (tk c : Nat), SetR w h' s.heap.objs.size (fun j => decide (j ∈ ns)) c → c ≤ ns.length → (∀ b o, s.heap.get? b = some o → h'.get? b = some o) → Q (.ref s.heap.objs.size) { s with heap := h', toks := tk }) :
    wpAny (model P w) A (call (.type "set") [.ref q]) Q E s := by
  have size_row : row.size = ns.length := (Array.length_toList (xs := row)).symm.trans hit.length
  obtain ⟨c0, tl0, mro0⟩ := F.called_set.mro
  have made0 := F.called_set.made
  have sub0 := F.called_set.sub
  refine wpAny_call (codeAny_of_tree (show wpAny _ _ (callAny (.type "set") _) _ _ _ from wpAny_pure ⟨Code.quiet_builtin _ (by decide +kernel), codeAny_builtin F.entry_type_call ?_⟩))
  rw [Around.under_plain (weight_type_call_type "set" [.ref q] []) rfl]
  have nt0 := F.called_set.notType
  have cc0 := F.called_set.canCreate
  have tc0 := F.typeCall_set_1 (.ref q)
  repeat any_goals first | assumption | wp_step
  refine codeAny_mono (code_set_led1 (.ref q) (E := E) (Q₁ := fun obj z => obj = .ref s.heap.objs.size ∧ z = { s with heap := s.heap.push (fresh0 w) }) ⟨rfl, rfl⟩) fun r s₁ hr => ?_
  cases r with
  | error e => exact hr
  | ok fl =>
    cases fl with
    | ret obj =>
      obtain ⟨rfl, rfl⟩ := hr
      have at0 : (s.heap.push (fresh0 w)).get? s.heap.objs.size = some (fresh0 w) := Heap.get?_push_size _ rfl
      have ty0 : Shared.TypeIs { s with heap := s.heap.push (fresh0 w) } (.ref s.heap.objs.size) "set" := ⟨_, at0, rfl⟩
      have li0 := F.called_set.init.lookup
      have bi0 := F.called_set.init.bind (.ref s.heap.objs.size)
      repeat any_goals first | assumption | wp_step
      refine codeAny_mono (codeAny_call_builtin (R := wants (fun u z => u = .none ∧ ∃ h' tk c, z = { s with heap := h', toks := tk } ∧ SetR w h' s.heap.objs.size (fun j => decide (j ∈ ns)) c ∧ c ≤ ns.length ∧
        (∀ b o, s.heap.get? b = some o → h'.get? b = some o)) E) F.called_set.init.plain F.entry_set_init (check_set_init_1 ty0 ?_)) fun r₂ s₂ hr₂ => ?_
      · obtain ⟨ol, hol, hcl, nl, hdl⟩ := hl
        obtain ⟨k1, k2, k3, k4⟩ := ol
        simp only at hcl hdl
        subst hcl hdl
        have old0 : (s.heap.push (fresh0 w)).get? q = some { cls := .type "list", dict := k2, data := .seq row nl, slots := k4 } := Heap.get?_push_of_some _ hol
        have sl0 := F.sub_list_set
        have sf0 := F.sub_list_frozenset
        have nd0 : (Value.type "list" == Value.type "dict") = false := by decide
        have il0 : (s.heap.push (fresh0 w)).IsList q row := ⟨_, old0, rfl, nl, rfl⟩
        unfold Builtin.«set.__init__» noKeywords Builtin.Frozenset.updateFrom
        generalize hw0 : pyIter = walkOf
        wp_walk
        subst hw0
        refine wpAny_pyIter_list il0 (wpAny_bind (wpAny_runValue ?_))
        have lt0 : q < s.heap.objs.size := Heap.lt_size hol
        have h3 : A.in1.in1.in1.handled = none := by simp [hh]
        have sz0 : (s.heap.push (fresh0 w)).objs.size = s.heap.objs.size + 1 := Heap.size_push ..
        have ne0 : q ≠ (s.heap.push (fresh0 w)).objs.size := by rw [sz0]; exact Nat.ne_of_lt (Nat.lt_succ_of_lt lt0)
        have out0 : s.heap.objs.size ∉ [(s.heap.push (fresh0 w)).objs.size, q] := by
          rw [sz0]
          simp only [List.mem_cons, List.not_mem_nil, or_false, not_or]
          exact ⟨Nat.ne_of_lt (Nat.lt_succ_self _), Nat.ne_of_gt lt0⟩
        have val0 : ∀ (i : Nat) (v : Value), row[i]? = some v → ∃ k t, ns[i]? = some k ∧ v = .int k t := fun i v hv => by
          have hi : i < ns.length := size_row ▸ (Array.getElem?_eq_some_iff.mp hv).1
          obtain ⟨t, e⟩ := hit.int_at i v (by rw [Array.getElem?_toList]; exact hv)
          exact ⟨ns[i], t, List.getElem?_eq_getElem hi, by rw [e, List.getD_eq_getElem?_getD, List.getElem?_eq_getElem hi]; rfl⟩
        refine set_update_ints ((Walks.list h3 _ q ne0 row).toS) s.heap.objs.size out0 ns size_row hb val0 (row.size - 0) 0 _ (by omega) (Nat.zero_le _) ⟨⟨_, Heap.get?_push_size _ rfl, rfl, rfl⟩, il0.push _⟩ ?at_start ?at_end
        case at_start => exact ⟨0, Nat.le_refl 0, setR_new_at (Heap.get?_push_of_some _ at0)⟩
        case at_end =>
          intro z c' hm hc' hS'
          obtain ⟨h', g2, d', tk', os'⟩ := z
          cases (show g2 = s.gens from hm.gens)
          cases (show d' = s.drawn from hm.drawn)
          cases (show os' = s.os from hm.os)
          rw [size_row] at hc'
          refine wpAny_pure (show wpAny _ _ (ret Value.none) _ _ _ from wpAny_pure ⟨rfl, h', tk', c', rfl, hS', hc', fun b o e => ?_⟩)
          have hb0 := Heap.lt_size e
          exact hm.heap b o (by rw [sz0]; simp only [List.mem_cons, List.not_mem_nil, or_false, not_or]; exact ⟨Nat.ne_of_lt hb0, Nat.ne_of_lt (Nat.lt_succ_of_lt hb0)⟩) (Heap.get?_push_of_some _ (Heap.get?_push_of_some _ e))
      · cases r₂ with
        | error e => exact hr₂
        | ok f2 =>
          cases f2 with
          | ret u =>
            obtain ⟨rfl, h9, t9, c9, rfl, g1, g2, g3⟩ := hr₂
            repeat any_goals first | assumption | wp_step
            exact fin _ _ _ g1 g2 g3
          | _ => exact False.elim hr₂
    | _ => exact hr
end
end PV

namespace PV
open PySem PySem.Spec PyProof.Rows L2
/-! ### set(xs), xs a tuple of tuples of ints -/
section
variable {P : Program} {w : World} {A : Around} {E : Value → Shared → Prop} {s : Shared}
theorem setOfTups {q : Addr} {row : Array Value} (rows : List (Addr × List Int)) {Q : Value → Shared → Prop} (hh : A.handled = none) (hl : s.heap.IsTuple q row) (hit : row.toList = rows.map fun z => Value.ref z.1)
    (tups : ∀ z ∈ rows, IsT P w s.heap z.2 z.1) (few : rows.length < 64) (hu : A.units + 3 < cLine)
    (fin : ∀ (h' : Heap) (tk : Nat) M es ep t, SetTR P w h' s.heap.objs.size M es ep t → Got rows rows.length M → (∀ b o, s.heap.get? b = some o → h'.get? b = some o) → Q (.ref s.heap.objs.size) { s with heap := h', toks := tk }) :
    wpAny (model P w) A (call (.type "set") [.ref q]) Q E s := by
  have size_row : row.size = rows.length := by
    have e := congrArg List.length hit
    simpa using e
  obtain ⟨c0, tl0, mro0⟩ := F.called_set.mro
  have made0 := F.called_set.made
  have sub0 := F.called_set.sub
  refine wpAny_call (codeAny_of_tree (show wpAny _ _ (callAny (.type "set") _) _ _ _ from wpAny_pure ⟨Code.quiet_builtin _ (by decide +kernel), codeAny_builtin F.entry_type_call ?_⟩))
  rw [Around.under_plain (weight_type_call_type "set" [.ref q] []) rfl]
  have nt0 := F.called_set.notType
  have cc0 := F.called_set.canCreate
  have tc0 := F.typeCall_set_1 (.ref q)
  repeat any_goals first | assumption | wp_step
  refine codeAny_mono (code_set_led1 (.ref q) (E := E) (Q₁ := fun obj z => obj = .ref s.heap.objs.size ∧ z = { s with heap := s.heap.push (fresh0 w) }) ⟨rfl, rfl⟩) fun r s₁ hr => ?_
  cases r with
  | error e => exact hr
  | ok fl =>
    cases fl with
    | ret obj =>
      obtain ⟨rfl, rfl⟩ := hr
      have at0 : (s.heap.push (fresh0 w)).get? s.heap.objs.size = some (fresh0 w) := Heap.get?_push_size _ rfl
      have ty0 : Shared.TypeIs { s with heap := s.heap.push (fresh0 w) } (.ref s.heap.objs.size) "set" := ⟨_, at0, rfl⟩
      have li0 := F.called_set.init.lookup
      have bi0 := F.called_set.init.bind (.ref s.heap.objs.size)
      repeat any_goals first | assumption | wp_step
      refine codeAny_mono (codeAny_call_builtin (R := wants (fun u z => u = .none ∧ ∃ h' tk M es ep t, z = { s with heap := h', toks := tk } ∧ SetTR P w h' s.heap.objs.size M es ep t ∧ Got rows rows.length M ∧
        (∀ b o, s.heap.get? b = some o → h'.get? b = some o)) E) F.called_set.init.plain F.entry_set_init (check_set_init_1 ty0 ?_)) fun r₂ s₂ hr₂ => ?_
      · obtain ⟨ol, hol, hcl, nl, hdl⟩ := hl
        obtain ⟨k1, k2, k3, k4⟩ := ol
        simp only at hcl hdl
        subst hcl hdl
        have old0 : (s.heap.push (fresh0 w)).get? q = some { cls := .type "tuple", dict := k2, data := .seq row nl, slots := k4 } := Heap.get?_push_of_some _ hol
        have sl0 := F.sub_tuple_set
        have sf0 := F.sub_tuple_frozenset
        have nd0 : (Value.type "tuple" == Value.type "dict") = false := by decide
        have il0 : (s.heap.push (fresh0 w)).IsTuple q row := ⟨_, old0, rfl, nl, rfl⟩
        unfold Builtin.«set.__init__» noKeywords Builtin.Frozenset.updateFrom
        generalize hw0 : pyIter = walkOf
        wp_walk
        subst hw0
        refine wpAny_pyIter_tuple il0 (wpAny_bind (wpAny_runValue ?_))
        have lt0 : q < s.heap.objs.size := Heap.lt_size hol
        have h3 : A.in1.in1.in1.handled = none := by simp [hh]
        have sz0 : (s.heap.push (fresh0 w)).objs.size = s.heap.objs.size + 1 := Heap.size_push ..
        have ne0 : q ≠ (s.heap.push (fresh0 w)).objs.size := by rw [sz0]; exact Nat.ne_of_lt (Nat.lt_succ_of_lt lt0)
        have out0 : s.heap.objs.size ∉ [(s.heap.push (fresh0 w)).objs.size, q] := by
          rw [sz0]
          simp only [List.mem_cons, List.not_mem_nil, or_false, not_or]
          exact ⟨Nat.ne_of_lt (Nat.lt_succ_self _), Nat.ne_of_gt lt0⟩
        have val0 : ∀ (i : Nat) (v : Value), row[i]? = some v → ∃ z, rows[i]? = some z ∧ v = .ref z.1 := fun i v hv => by
          have e : row.toList[i]? = some v := (Array.getElem?_toList ..).trans hv
          rw [hit, List.getElem?_map] at e
          obtain ⟨z, h1, h2⟩ := Option.map_eq_some_iff.mp e
          exact ⟨z, h1, h2.symm⟩
        have gone : ∀ b, s.heap.objs.size ≤ b → s.heap.get? b = none := fun b hb => Option.eq_none_iff_forall_ne_some.mpr fun o e => absurd (Heap.lt_size e) (Nat.not_lt.mpr hb)
        refine set_update_tups ((Walks.tuple h3 _ q ne0 row).toS) s.heap.objs.size out0 rows size_row few val0 s.heap tups (gone _ (Nat.le_refl _))
          (fun b hb => gone b (by rw [List.mem_singleton.mp hb, sz0]; exact Nat.le_succ _)) hu (row.size - 0) 0 _ (by omega) (Nat.zero_le _) ⟨⟨_, Heap.get?_push_size _ rfl, rfl, rfl⟩, il0.push _⟩
          (fun b o e => Heap.get?_push_of_some _ (Heap.get?_push_of_some _ e)) ?at_start ?at_end
        case at_start => exact ⟨[], #[], 0, _, setTR_fresh (Heap.get?_push_of_some _ at0), Got.zero rows⟩
        case at_end =>
          intro z M es ep t hm hS' got hk'
          obtain ⟨h', g2, d', tk', os'⟩ := z
          cases (show g2 = s.gens from hm.gens)
          cases (show d' = s.drawn from hm.drawn)
          cases (show os' = s.os from hm.os)
          rw [size_row] at got
          exact wpAny_pure (show wpAny _ _ (ret Value.none) _ _ _ from wpAny_pure ⟨rfl, h', tk', M, es, ep, t, rfl, hS', got, hk'⟩)
      · cases r₂ with
        | error e => exact hr₂
        | ok f2 =>
          cases f2 with
          | ret u =>
            obtain ⟨rfl, h9, t9, M, es, ep, t, rfl, g1, g2, g3⟩ := hr₂
            repeat any_goals first | assumption | wp_step
            exact fin _ _ _ _ _ _ g1 g2 g3
          | _ => exact False.elim hr₂
    | _ => exact hr
end
end PV

namespace PV
theorem mem_ins {x z : Int} : ∀ {r : List Int}, z ∈ ins x r ↔ z = x ∨ z ∈ r
  | [] => by simp [ins]
  | y :: r => by
    unfold ins
    split
    · simp
    · split
      · rename_i h; subst h; simp
      · rw [List.mem_cons, mem_ins (r := r), List.mem_cons]
        constructor
        · rintro (h | h | h) <;> simp [h]
        · rintro (h | h | h) <;> simp [h]
theorem ins_rising {x : Int} : ∀ {r : List Int}, r.Pairwise (· < ·) → (ins x r).Pairwise (· < ·)
  | [], _ => by simp [ins]
  | y :: r, h => by
    have h1 := List.pairwise_cons.mp h
    unfold ins
    split
    · rename_i hlt
      exact List.pairwise_cons.mpr ⟨fun z hz => by
        rcases List.mem_cons.mp hz with rfl | hz
        · exact hlt
        · have := h1.1 z hz; omega, h⟩
    · split
      · exact h
      · exact List.pairwise_cons.mpr ⟨fun z hz => by
          rcases mem_ins.mp hz with rfl | hz
          · omega
          · exact h1.1 z hz, ins_rising h1.2⟩
theorem uniq_rising : ∀ ns : List Int, (uniqI ns).Pairwise (· < ·)
  | [] => .nil
  | x :: ns => ins_rising (uniq_rising ns)
theorem mem_uniq {z : Int} : ∀ {ns : List Int}, z ∈ uniqI ns ↔ z ∈ ns
  | [] => by simp [uniqI]
  | x :: ns => by
    show z ∈ ins x (uniqI ns) ↔ _
    rw [mem_ins, mem_uniq (ns := ns), List.mem_cons]
theorem rising_eq : ∀ {as bs : List Int}, as.Pairwise (· < ·) → bs.Pairwise (· < ·) → (∀ z, z ∈ as ↔ z ∈ bs) → as = bs
  | [], [], _, _, _ => rfl
  | [], b :: bs, _, _, h => by have := (h b).mpr List.mem_cons_self; cases this
  | a :: as, [], _, _, h => by have := (h a).mp List.mem_cons_self; cases this
  | a :: as, b :: bs, ha, hb, h => by
    have ha := List.pairwise_cons.mp ha
    have hb := List.pairwise_cons.mp hb
    have e : a = b := by
      rcases List.mem_cons.mp ((h a).mp List.mem_cons_self) with e | e
      · exact e
      · rcases List.mem_cons.mp ((h b).mpr List.mem_cons_self) with e2 | e2
        · exact e2.symm
        · have := hb.1 a e; have := ha.1 b e2; omega
    subst e
    rw [rising_eq ha.2 hb.2 fun z => ?_]
    have q := h z
    rw [List.mem_cons, List.mem_cons] at q
    constructor
    · intro hz
      rcases q.mp (.inr hz) with rfl | h'
      · exact absurd (ha.1 _ hz) (Int.lt_irrefl _)
      · exact h'
    · intro hz
      rcases q.mpr (.inr hz) with rfl | h'
      · exact absurd (hb.1 _ hz) (Int.lt_irrefl _)
      · exact h'
/-! ### rows of tuples -/
theorem ltT_irr : ∀ a : List Int, ltT a a = false
  | [] => rfl
  | x :: xs => by rw [ltT, if_pos rfl, ltT_irr xs]
theorem ltT_trans : ∀ {a b c : List Int}, ltT a b = true → ltT b c = true → ltT a c = true
  | [], [], _, h, _ => by cases h
  | [], _ :: _, [], _, h => by cases h
  | [], _ :: _, _ :: _, _, _ => rfl
  | _ :: _, [], _, h, _ => by cases h
  | _ :: _, _ :: _, [], _, h => by cases h
  | x :: xs, y :: ys, z :: zs, h, h' => by
    rw [ltT] at h h' ⊢
    by_cases e1 : x = y
    · rw [if_pos e1] at h
      subst e1
      by_cases e2 : x = z
      · rw [if_pos e2] at h' ⊢
        exact ltT_trans h h'
      · rw [if_neg e2] at h' ⊢
        exact h'
    · rw [if_neg e1, decide_eq_true_eq] at h
      by_cases e2 : y = z
      · rw [if_pos e2] at h'
        subst e2
        rw [if_neg e1, decide_eq_true_eq]
        exact h
      · rw [if_neg e2, decide_eq_true_eq] at h'
        rw [if_neg (by omega), decide_eq_true_eq]
        omega
theorem ltT_tri : ∀ a b : List Int, ltT a b = true ∨ a = b ∨ ltT b a = true
  | [], [] => .inr (.inl rfl)
  | [], _ :: _ => .inl rfl
  | _ :: _, [] => .inr (.inr rfl)
  | x :: xs, y :: ys => by
    rw [ltT, ltT]
    by_cases e : x = y
    · subst e
      rw [if_pos rfl, if_pos rfl]
      rcases ltT_tri xs ys with h | h | h
      · exact .inl h
      · exact .inr (.inl (by rw [h]))
      · exact .inr (.inr h)
    · rw [if_neg e, if_neg (fun z => e z.symm)]
      rcases Int.lt_or_gt_of_ne e with h | h
      · exact .inl (decide_eq_true h)
      · exact .inr (.inr (decide_eq_true h))
theorem mem_insT {x z : List Int} : ∀ {r : List (List Int)}, z ∈ insT x r ↔ z = x ∨ z ∈ r
  | [] => by simp [insT]
  | y :: r => by
    unfold insT
    split
    · simp
    · split
      · rename_i h; subst h; simp
      · rw [List.mem_cons, mem_insT (r := r), List.mem_cons]
        constructor
        · rintro (h | h | h) <;> simp [h]
        · rintro (h | h | h) <;> simp [h]
abbrev RisT (ks : List (List Int)) : Prop := ks.Pairwise fun a b => ltT a b = true
theorem insT_rising {x : List Int} : ∀ {r : List (List Int)}, RisT r → RisT (insT x r)
  | [], _ => by simp [insT, RisT]
  | y :: r, h => by
    have h1 := List.pairwise_cons.mp h
    unfold insT
    split
    · rename_i hlt
      exact List.pairwise_cons.mpr ⟨fun z hz => by
        rcases List.mem_cons.mp hz with rfl | hz
        · exact hlt
        · exact ltT_trans hlt (h1.1 z hz), h⟩
    · rename_i hn
      split
      · exact h
      · rename_i hne
        exact List.pairwise_cons.mpr ⟨fun z hz => by
          rcases mem_insT.mp hz with rfl | hz
          · rcases ltT_tri z y with h | h | h
            · exact absurd h hn
            · exact absurd h hne
            · exact h
          · exact h1.1 z hz, insT_rising h1.2⟩
theorem uniqT_rising : ∀ ks : List (List Int), RisT (uniqT ks)
  | [] => .nil
  | x :: ks => insT_rising (uniqT_rising ks)
theorem mem_uniqT {z : List Int} : ∀ {ks : List (List Int)}, z ∈ uniqT ks ↔ z ∈ ks
  | [] => by simp [uniqT]
  | x :: ks => by
    show z ∈ insT x (uniqT ks) ↔ _
    rw [mem_insT, mem_uniqT (ks := ks), List.mem_cons]
theorem risT_eq : ∀ {as bs : List (List Int)}, RisT as → RisT bs → (∀ z, z ∈ as ↔ z ∈ bs) → as = bs
  | [], [], _, _, _ => rfl
  | [], b :: bs, _, _, h => by have := (h b).mpr List.mem_cons_self; cases this
  | a :: as, [], _, _, h => by have := (h a).mp List.mem_cons_self; cases this
  | a :: as, b :: bs, ha, hb, h => by
    have ha := List.pairwise_cons.mp ha
    have hb := List.pairwise_cons.mp hb
    have no : ∀ x y : List Int, ltT x y = true → ltT y x = true → False := fun x y h1 h2 => by
      have := ltT_trans h1 h2
      rw [ltT_irr] at this
      cases this
    have e : a = b := by
      rcases List.mem_cons.mp ((h a).mp List.mem_cons_self) with e | e
      · exact e
      · rcases List.mem_cons.mp ((h b).mpr List.mem_cons_self) with e2 | e2
        · exact e2.symm
        · exact (no _ _ (hb.1 a e) (ha.1 b e2)).elim
    subst e
    rw [risT_eq ha.2 hb.2 fun z => ?_]
    have q := h z
    rw [List.mem_cons, List.mem_cons] at q
    have self : ∀ x : List Int, ltT x x = true → False := fun x h => by rw [ltT_irr] at h; cases h
    constructor
    · intro hz
      rcases q.mp (.inr hz) with rfl | h'
      · exact (self _ (ha.1 _ hz)).elim
      · exact h'
    · intro hz
      rcases q.mpr (.inr hz) with rfl | h'
      · exact (self _ (hb.1 _ hz)).elim
      · exact h'
theorem risT_nodup {ks : List (List Int)} (h : RisT ks) : ks.Nodup := h.imp fun {a b} h e => by
  subst e
  rw [ltT_irr] at h
  cases h
theorem uniqT_len (ks : List (List Int)) : (uniqT ks).length ≤ ks.length := by
  have hi : ∀ (x : List Int) (r : List (List Int)), (insT x r).length ≤ r.length + 1 := fun x r => by
    induction r with
    | nil => exact Nat.le_refl _
    | cons y r ih =>
      unfold insT
      split
      · exact Nat.le_refl _
      · split
        · exact Nat.le_succ _
        · exact Nat.succ_le_succ ih
  induction ks with
  | nil => exact Nat.le_refl _
  | cons x ks ih => exact Nat.le_trans (hi x _) (Nat.succ_le_succ ih)
/-- the order of the values -/
theorem lts_ltT : ∀ a b : List Int, D.lts (a.map D.int) (b.map D.int) = ltT a b
  | [], [] => rfl
  | [], _ :: _ => rfl
  | _ :: _, [] => rfl
  | x :: xs, y :: ys => by
    rw [List.map_cons, List.map_cons, D.lts, lts_ltT xs ys, ltT]
    have e : (D.int x).eqv (D.int y) = (x == y) := by rw [D.eqv]
    have l : (D.int x).lt (D.int y) = decide (x < y) := by rw [D.lt]
    rw [e, l]
    by_cases h : x = y
    · rw [if_pos h, if_pos (by simpa using h)]
    · rw [if_neg h, if_neg (by simpa using h)]
def tT (k : List Int) : D := .tup (k.map .int)
theorem le_tT (a b : List Int) : (tT a).le (tT b) = !ltT b a := by
  show (!((tT b).lt (tT a))) = _
  rw [tT, tT, D.lt, lts_ltT]
theorem sorted_tT {ks : List (List Int)} (h : ks.Nodup) : sorted (ks.map tT) = (uniqT ks).map tT := by
  unfold sorted
  rw [← List.map_mergeSort (f := tT) (r := fun a b => (tT a).le (tT b)) (s := D.le) (l := ks) fun a _ b _ => rfl]
  congr 1
  have pw := List.pairwise_mergeSort (le := fun a b => (tT a).le (tT b)) (fun a b c h1 h2 => by
    rw [le_tT] at h1 h2 ⊢
    cases hca : ltT c a with
    | false => rfl
    | true =>
      simp only [Bool.not_eq_true'] at h1 h2
      rcases ltT_tri b a with h | h | h
      · rw [h] at h1; cases h1
      · subst h; rw [hca] at h2; cases h2
      · have := ltT_trans hca h
        rw [this] at h2; cases h2) (fun a b => by
    rw [le_tT, le_tT]
    rcases ltT_tri a b with h | h | h
    · cases hb : ltT b a with
      | false => rfl
      | true =>
        have := ltT_trans h hb
        rw [ltT_irr] at this; cases this
    · subst h; rw [ltT_irr]; rfl
    · cases hb : ltT a b with
      | false => simp
      | true =>
        have := ltT_trans h hb
        rw [ltT_irr] at this; cases this) ks
  have hp := List.mergeSort_perm ks fun a b => (tT a).le (tT b)
  have hn : (ks.mergeSort fun a b => (tT a).le (tT b)).Nodup := hp.nodup_iff.mpr h
  refine risT_eq ?_ (uniqT_rising ks) fun z => by rw [mem_uniqT, hp.mem_iff]
  refine List.Pairwise.imp₂ (R := fun a b => (tT a).le (tT b) = true) (S := fun a b => a ≠ b) (fun a b h1 h2 => ?_) pw hn
  rw [le_tT] at h1
  rcases ltT_tri a b with h | h | h
  · exact h
  · exact absurd h h2
  · rw [h] at h1; cases h1
theorem tupsOf_eq : ∀ {ys : List D} {ks : List (List Int)}, tupsOf ys = some ks → ∃ rows : List (List D), ys = rows.map .tup ∧ rows.map intsOf = ks.map some
  | [], _, h => by cases h; exact ⟨[], rfl, rfl⟩
  | d :: ys, ks, h => by
    cases d with
    | tup xs =>
      obtain ⟨k, h1, h2⟩ := Option.bind_eq_some_iff.mp (show (intsOf xs).bind _ = some ks from h)
      obtain ⟨ks', h3, rfl⟩ := Option.map_eq_some_iff.mp h2
      obtain ⟨rows, rfl, h4⟩ := tupsOf_eq h3
      exact ⟨xs :: rows, rfl, by rw [List.map_cons, h4, h1]; rfl⟩
    | _ => simp [tupsOf] at h
end PV

namespace PV
open PySem PySem.Spec PyProof.Rows L2
section
variable {X : Cx}
theorem perm_lift {α β : Type} {f : α → β} {xs ys : List β} (h : xs.Perm ys) : ∀ {L : List α}, ys = L.map f → ∃ M : List α, M.Perm L ∧ xs = M.map f := by
  induction h with
  | nil => intro L e; cases L with
    | nil => exact ⟨[], .refl _, rfl⟩
    | cons _ _ => cases e
  | cons x h ih =>
    intro L e
    cases L with
    | nil => cases e
    | cons a L =>
      injection e with e1 e2
      obtain ⟨M, h1, h2⟩ := ih e2
      exact ⟨a :: M, h1.cons a, by rw [List.map_cons, e1, h2]⟩
  | swap x y l =>
    intro L e
    match L, e with
    | [], e => cases e
    | [_], e => cases e
    | a :: b :: L, e =>
      injection e with e1 e2
      injection e2 with e2 e3
      exact ⟨b :: a :: L, .swap _ _ _, by rw [List.map_cons, List.map_cons, e1, e2, e3]⟩
  | trans h1 h2 ih1 ih2 =>
    intro L e
    obtain ⟨M, p1, e1⟩ := ih2 e
    obtain ⟨M2, p2, e2⟩ := ih1 e1
    exact ⟨M2, p2.trans p1, e2⟩
/-- sorted(set(e)), e a list or a tuple of fewer than 64 ints, or of fewer than 64 tuples of ints -/
def tSs (K : PySem.W.Frag) (te : TE) : TE := fun σ H Q => te σ H fun x H1 => ∃ (l : Addr), x = .ref l ∧
  ((∃ ns : List Int, (SqL K H1 l (ns.map V.int) ∨ H1 l = some (.tup (ns.map V.int))) ∧ ns.length < 64 ∧ ∀ p, H1 p = none → Q (.ref p) (upd H1 p (.lst ((uniqI ns).map V.int)))) ∨
    ∃ ks : List (Addr × List Int), (SqL K H1 l (ks.map fun p => V.ref p.1) ∨ H1 l = some (.tup (ks.map fun p => V.ref p.1))) ∧ (∀ p ∈ ks, H1 p.1 = some (.tup (p.2.map V.int))) ∧ ks.length < 64 ∧
      ∀ p ws, H1 p = none → DVs K [] H1 ws ((uniqT (ks.map (·.2))).map tT) → Q (.ref p) (upd H1 p (.lst ws)))
theorem ints_dv {K : PySem.W.Frag} {m : List Addr} {H : Hp} : ∀ ns : List Int, DVs K m H (ns.map V.int) (ns.map D.int)
  | [] => .nil
  | x :: ns => .cons (.int x) (ints_dv ns)
theorem tT_pur (k : List Int) : (tT k).pur = true := by
  show D.purs (k.map D.int) = true
  induction k with
  | nil => rfl
  | cons x k ih => rw [List.map_cons, D.purs, ih]; rfl
theorem tT_dep (k : List Int) : (tT k).dep = 1 := by
  show D.deps (k.map D.int) + 1 = 1
  have : D.deps (k.map D.int) = 0 := by
    induction k with
    | nil => rfl
    | cons x k ih => rw [List.map_cons, D.deps, ih]; rfl
  rw [this]
theorem tT_alk : ∀ a b : List Int, (tT a).alk (tT b) = true := by
  intro a b
  show D.alks (a.map D.int) (b.map D.int) = true
  induction a generalizing b with
  | nil => cases b <;> rfl
  | cons x a ih => cases b with
    | nil => rfl
    | cons y b => rw [List.map_cons, List.map_cons, D.alks, ih]; rfl
theorem tT_sortable (ks : List (List Int)) : sortable (ks.map tT) = true := by
  unfold sortable
  simp only [Bool.and_eq_true, decide_eq_true_eq, List.all_eq_true]
  refine ⟨⟨⟨(purs_iff _).mpr fun x hx => ?_, ?_⟩, fun a ha b hb => ?_⟩, fun a ha => ?_⟩
  · obtain ⟨k, _, rfl⟩ := List.mem_map.mp hx
    exact tT_pur k
  · induction ks with
    | nil => exact Nat.zero_le _
    | cons k ks ih => rw [List.map_cons, D.deps, tT_dep]; exact Nat.max_le.mpr ⟨by decide, ih⟩
  · obtain ⟨x, _, rfl⟩ := List.mem_map.mp ha
    obtain ⟨y, _, rfl⟩ := List.mem_map.mp hb
    exact tT_alk x y
  · obtain ⟨x, _, rfl⟩ := List.mem_map.mp ha
    rfl
theorem row_dvs {K : PySem.W.Frag} {m : List Addr} {H : Hp} : ∀ {M : List (Addr × List Int)}, (∀ p ∈ M, H p.1 = some (.tup (p.2.map V.int))) → DVs K m H (M.map fun p => V.ref p.1) ((M.map (·.2)).map tT)
  | [], _ => .nil
  | p :: M, h => .cons (.tup (h p List.mem_cons_self) (ints_dv p.2)) (row_dvs fun q hq => h q (List.mem_cons_of_mem _ hq))
theorem pe_sset {e : Expr} {te : TE} {p p2 q pos : Pos} (hu : X.A.units + 70 < cLine) (hc : X.calm = true) (hg : Gl X "sorted") (hm : X.mg "sorted" = none) (hg2 : Gl X "set") (hm2 : X.mg "set" = none) (ha : PE X e te)
    (na : starEach [e] X.env = (false, PySem.eval e X.env) :: starEach [] X.env) : PE X (.Call (.Name "sorted" p) [.Call (.Name "set" p2) [e] [] q] [] pos) (tSs X.K te) := by
  refine ⟨fun pins s σ H Q I h => ?_⟩
  refine Call_ (ld_blt I hg hm PyProof.Rows.boot_sorted (PyProof.Rows.callWith_builtin1 (PyProof.Rows.args_cons ?_ rfl) rfl rfl))
  refine Call_ (ld_blt I hg2 hm2 boot_set (PyProof.Rows.callWith_type1 (PyProof.Rows.args_cons (thn (ha.run pins s σ H _ I h) fun v s1 ⟨x, H1, I1, r1, q1⟩ => PyProof.Rows.args_nil ?_) na) na rfl))
  obtain ⟨l, rfl, ⟨ns, hq, hl, q1⟩ | ⟨ks, hq, hk, hl, q1⟩⟩ := q1
  · cases r1
    have fin : ∀ (A : Around) (E : Value → Shared → Prop), A.handled = none → wpAny (model X.prog X.w) A (call (.type "set") [.ref l]) (fun v s' => ∃ (h' : Heap) (tk c : Nat), v = .ref s1.heap.objs.size ∧ s' = { s1 with heap := h', toks := tk } ∧ SetR X.w h' s1.heap.objs.size (fun j => decide (j ∈ ns)) c ∧ c ≤ ns.length ∧ ∀ b o, s1.heap.get? b = some o → h'.get? b = some o) E s1 := by
      intro A E hh
      rcases hq with hq | hq
      · obtain ⟨its, rv, pl, hz⟩ := I1.list hq
        exact setOfList ns hh pl.isList (by simpa using RZ.intsAre_vals rv) (by unfold scanBound; omega) fun h' tk c R hcl hk => ⟨h', tk, c, rfl, rfl, R, hcl, hk⟩
      · obtain ⟨its, rv, pl, hz⟩ := I1.tuple (.inl (.inl hq))
        exact call_set_tupI ns hh pl (by simpa using RZ.intsAre_vals rv) (by unfold scanBound; omega) fun h' tk c R hcl hk => ⟨h', tk, c, rfl, rfl, R, hcl, hk⟩
    refine wpAny_mono (fin _ _ (I1.ok.hd hc)) (fun v s' ⟨h', tk, c, e1, e2, R, hcl, hk⟩ => ?_) fun _ _ z => z
    subst e1 e2
    refine PyProof.Rows.args_nil ?_
    have I2 : Inv X pins σ H1 { s1 with heap := h', toks := tk } := I1.kept hk
    refine sorted_set R (I2.ok.hd hc) (by omega) fun s' b out k ns' kp g o hb hg' hi hs hmem hlen => ?_
    have en : ns' = uniqI ns := rising_eq hs (uniq_rising ns) fun z => by rw [hmem, mem_uniq, decide_eq_true_eq]
    subst en
    have hn : H1 b = none := I2.hok.fresh hb
    have hsz : ((uniqI ns).map V.int).length ≤ sizeLine := by rw [List.length_map, hlen, sizeLine_eq]; omega
    have J : Inv X pins σ (upd H1 b (.lst ((uniqI ns).map V.int))) { ({ s1 with heap := h', toks := tk } : Shared) with heap := s'.heap, gens := s'.gens, drawn := s'.drawn, toks := s'.toks } :=
      I2.call (ch := []) (Un.laid kp hb hn) (I2.hok.laid kp hb ⟨hsz, out.toList, k, vals_of_ints hi, hg'⟩) (by rw [g]; exact I2.bare) fun _ z => nomatch z
    have e : s' = { ({ s1 with heap := h', toks := tk } : Shared) with heap := s'.heap, gens := s'.gens, drawn := s'.drawn, toks := s'.toks } := by
      cases s'
      cases o
      rfl
    rw [e]
    exact ⟨.ref b, _, J, rfl, q1 b hn⟩
  · cases r1
    have fin : ∀ (A : Around) (E : Value → Shared → Prop), A.handled = none → A.units + 3 < cLine → wpAny (model X.prog X.w) A (call (.type "set") [.ref l]) (fun v s' => ∃ (h' : Heap) (tk : Nat) (M : List (Addr × List Int)) (es : Array (Int × Value)) (ep : Nat) (t : SetTable), v = .ref s1.heap.objs.size ∧ s' = { s1 with heap := h', toks := tk } ∧ SetTR X.prog X.w h' s1.heap.objs.size M es ep t ∧ Got ks ks.length M ∧ ∀ b o, s1.heap.get? b = some o → h'.get? b = some o) E s1 := by
      intro A E hh hA
      have tups : ∀ p ∈ ks, IsT X.prog X.w s1.heap p.2 p.1 := fun p hp => I1.isT (.inl (.inl (hk p hp)))
      rcases hq with hq | hq
      · obtain ⟨its, rv, pl, hz⟩ := I1.list hq
        exact call_set_tups (P := X.prog) (w := X.w) ks hh pl.isList (by simpa using refs_of_vals rv) tups hl hA fun h' tk M es ep t R g k => ⟨h', tk, M, es, ep, t, rfl, rfl, R, g, k⟩
      · obtain ⟨its, rv, pl, hz⟩ := I1.tuple (.inl (.inl hq))
        exact setOfTups (P := X.prog) (w := X.w) ks hh pl (by simpa using refs_of_vals rv) tups hl hA fun h' tk M es ep t R g k => ⟨h', tk, M, es, ep, t, rfl, rfl, R, g, k⟩
    refine wpAny_mono (fin _ _ (I1.ok.hd hc) (by omega)) (fun v s' ⟨h', tk, M, es, ep, t, e1, e2, R, got, hkp⟩ => ?_) fun _ _ z => z
    subst e1 e2
    refine PyProof.Rows.args_nil ?_
    have I2 : Inv X pins σ H1 { s1 with heap := h', toks := tk } := I1.kept hkp
    have hM : ∀ p ∈ M, H1 p.1 = some (.tup (p.2.map V.int)) := fun p hp => hk p (List.mem_of_mem_take (got.sub p hp))
    obtain ⟨o, ho, hex, hd⟩ := R.ob
    have hsz := SetTR.size (s := { s1 with heap := h', toks := tk }) R
    have hfits := SetTR.fits (s := { s1 with heap := h', toks := tk }) R
    have hfew := R.few
    refine sortedBy (collect_set (A := X.A.in1) (by have := I2.ok.hd hc; simpa using this) ⟨o, ho, hex.1, hd⟩ hfits (by unfold scanBound; omega) R.tab.ris R.led fun s2 vs k1 hz g1 o1 pm => ?_)
    have hes : es.toList.map (·.2) = M.map fun q => Value.ref q.1 := by
      rw [R.rows]
      unfold rowsOf
      rw [List.map_map]
      rfl
    rw [hes] at pm
    obtain ⟨M1, pM, rfl⟩ := perm_lift pm rfl
    have hlen : (M1.map fun q => Value.ref q.1).length < 64 := by rw [List.length_map, pM.length_eq]; exact hfew
    have hM1 : ∀ p ∈ M1, H1 p.1 = some (.tup (p.2.map V.int)) := fun p hp => hM p (pM.mem_iff.mp hp)
    have rv : Vals (M1.map fun q => V.ref q.1) (M1.map fun q => Value.ref q.1) := vals_of_refs M1
    have dv : DVs X.K [] H1 (M1.map fun q => V.ref q.1) ((M1.map (·.2)).map tT) := row_dvs hM1
    have hs := tT_sortable (M1.map (·.2))
    have hpur : D.purs ((M1.map (·.2)).map tT) = true := (sortable_get hs).1
    generalize hus : (M1.map fun q => Value.ref q.1) = us at rv hlen pm ⊢
    generalize hxs : (M1.map (·.2)).map tT = xs at dv hs hpur
    generalize hvv : (M1.map fun q => V.ref q.1) = vv at rv dv
    have hk2 : ∀ b o, ({ s1 with heap := h', toks := tk } : Shared).heap.get? b = some o → (PySem.W.sortingHeap (s2.heap.push (seqObj "list" us.toArray 0)) s2.heap.objs.size us).get? b = some o := fun b o q =>
      PySem.W.sortingHeap_old (Nat.ne_of_lt (Heap.lt_size (k1 b o q))) (Heap.get?_push_of_some _ (k1 b o q))
    have er := reads_each I2 hk2 dv hpur rv
    refine ⟨by rw [sizeLine_eq]; omega, _, sortsAt hs er (by show X.A.units + 1 + 1 + 64 < cLine; omega), ?_⟩
    obtain ⟨ws', w1, w2⟩ := sortedOut hs dv rv er
    have hnd : (M1.map (·.2)).Nodup := (pM.map (·.2)).nodup_iff.mpr R.nd
    have huq : uniqT (M1.map (·.2)) = uniqT (ks.map (·.2)) := risT_eq (uniqT_rising _) (uniqT_rising _) fun z => by
      rw [mem_uniqT, mem_uniqT]
      constructor
      · intro hz
        obtain ⟨p, hp, rfl⟩ := List.mem_map.mp hz
        exact List.mem_map.mpr ⟨p, List.mem_of_mem_take (got.sub p (pM.mem_iff.mp hp)), rfl⟩
      · intro hz
        obtain ⟨p, hp, rfl⟩ := List.mem_map.mp hz
        exact (pM.map (·.2)).mem_iff.mpr (got.all p (by rw [List.take_length]; exact hp))
    rw [← hxs, sorted_tT hnd, huq] at w2
    have hwl : ws'.length ≤ sizeLine := by
      rw [w2.length, List.length_map, sizeLine_eq]
      have := uniqT_len (ks.map (·.2))
      rw [List.length_map] at this
      omega
    have hn : H1 s2.heap.objs.size = none := I2.hok.fresh hz
    have at0 : (s2.heap.push (seqObj "list" us.toArray 0)).get? s2.heap.objs.size = some (seqObj "list" us.toArray 0) := Heap.get?_push_size _ rfl
    generalize hsv : PySem.W.sortVals (PySem.W.dataKind (PySem.W.sortingHeap (s2.heap.push (seqObj "list" us.toArray 0)) s2.heap.objs.size us) (pds xs)) false us us = sv at w1
    obtain ⟨e9, he9⟩ := sortedHeap_at (out := sv.toArray) at0
    have kp : ∀ b o, h'.get? b = some o → (sortedHeap (s2.heap.push (seqObj "list" us.toArray 0)) s2.heap.objs.size us sv.toArray).get? b = some o := fun b o q => by
      have hb := Heap.lt_size (k1 b o q)
      exact (sortedHeap_old (Nat.ne_of_lt hb) (by rw [size_push']; exact Nat.lt_succ_of_lt hb)).trans (Heap.get?_push_of_some _ (k1 b o q))
    have J := I2.call' (ch := []) (s' := { s2 with heap := sortedHeap (s2.heap.push (seqObj "list" us.toArray 0)) s2.heap.objs.size us sv.toArray })
      o1 (Un.laid kp hz hn) (I2.hok.laid (o := .lst ws') kp hz ⟨hwl, _, e9, w1, he9⟩) (by show AllBare s2.gens; rw [g1]; exact I2.bare) (fun _ z => nomatch z)
    exact ⟨.ref s2.heap.objs.size, _, J, rfl, q1 _ ws' hn w2⟩
end
end PV

namespace PV
open PySem PySem.Spec PyProof.Rows L2
section
variable {X : Cx} {C : CS} {c : Ctx} {k : Nat} {fnb : Str → Bool}
/-! calls -/
theorem rN_nil {f : List D → Sto → R D} {vs : List V} {H : Hp} {Q : VK} (h : rN X.K f vs H Q) : rN X.K f (vs ++ []) H Q := by rw [List.append_nil]; exact h
theorem rdN {fs : Env → Sto → R (List D)} {g : List D → Sto → R D} {σ : Sg} {H : Hp} {Q : VK} (h : tEv X.K (fun ρ S => (fs ρ S).bind fun vs S => g vs S) σ H Q) : tEs X.K fs σ H fun vs H1 => rN X.K g vs H1 Q := by
  obtain ⟨m, S, ρ, r, e, cc⟩ := h
  exact ⟨m, S, ρ, r, e, (Cont.bind (RV := DVs X.K) cc).imp fun v H1 ⟨x, m1, S1, G, r1, h1, c1⟩ => ⟨m1, S1, x, r1, h1, c1⟩⟩
theorem e_call0 {x : Str} {i : Nat} {p pos : Pos} (gd : Gd C c k fnb X) (hi : C.fns[i]? = some x) (hx : okName x = true) (hg : glb X.env.scope x = true) :
    PE X (.Call (.Name x p) [] [] pos) (tEv X.K fun ρ S => (R.ok [] S).bind fun vs S => c.call i vs S) := by
  obtain ⟨f, fd, ps, hm, hk, hb, F⟩ := gd.fns i x hi
  obtain ⟨a1, _, _⟩ := ok_name hx
  exact PE.wk (pe_call0 (E := E0) F gd.room (gl_of hg) hm hk hb .nil (fun _ _ _ _ _ _ _ h => h.elim) a1) fun σ H Q ⟨m, S, ρ, r, e, cc⟩ => ⟨m, S, [], r, .nil, cc⟩
theorem e_call1 {x : Str} {i : Nat} {p pos : Pos} {e : Expr} {es : List Expr} {fs : Env → Sto → R (List D)} (gd : Gd C c k fnb X) (hi : C.fns[i]? = some x) (hx : okName x = true) (hg : glb X.env.scope x = true) (ha : PA X (e :: es) (tEs X.K fs))
    (hs : starEach (e :: es) X.env = (false, PySem.eval e X.env) :: starEach es X.env) (hs2 : (starEach es X.env).any (·.1) = false) :
    PE X (.Call (.Name x p) (e :: es) [] pos) (tEv X.K fun ρ S => (fs ρ S).bind fun vs S => c.call i vs S) := by
  obtain ⟨f, fd, ps, hm, hk, hb, F⟩ := gd.fns i x hi
  obtain ⟨a1, _, _⟩ := ok_name hx
  refine PE.wk (pe_call (E := E0) F gd.room (gl_of hg) hm hk hb .nil (fun _ _ _ _ _ _ _ h => h.elim) ha a1 hs (star_len hs2 _)) fun σ H Q h => ?_
  obtain ⟨m, S, ρ, r, e, cc⟩ := rdN h
  exact ⟨m, S, ρ, r, e, cc.imp fun vs H1 q => rN_nil q⟩
theorem e_bi {x : Str} {id : String} {f : List D → Sto → R D} {p pos : Pos} {e : Expr} {es : List Expr} {fs : Env → Sto → R (List D)} (hc : CallR X (.builtin id) (rN X.K f)) (hv : bootBuiltins x = some (.builtin id)) (hm : X.mg x = none) (hx : okName x = true) (hg : glb X.env.scope x = true) (ha : PA X (e :: es) (tEs X.K fs))
    (hs : starEach (e :: es) X.env = (false, PySem.eval e X.env) :: starEach es X.env) (hs2 : (starEach es X.env).any (·.1) = false) :
    PE X (.Call (.Name x p) (e :: es) [] pos) (tEv X.K fun ρ S => (fs ρ S).bind fun vs S => f vs S) := by
  obtain ⟨a1, _, a3⟩ := ok_name hx
  exact PE.wk (pe_callB hc (gl_of hg) hm hv ha a3 a1 hs (star_len hs2 _)) fun σ H Q h => rdN h
theorem e_ty {x : Str} {id : String} {f : List D → Sto → R D} {p pos : Pos} {e : Expr} {es : List Expr} {fs : Env → Sto → R (List D)} (hc : CallR X (.type id) (rN X.K f)) (hv : bootBuiltins x = some (.type id)) (hm : X.mg x = none) (hx : okName x = true) (hg : glb X.env.scope x = true) (ha : PA X (e :: es) (tEs X.K fs))
    (hs : starEach (e :: es) X.env = (false, PySem.eval e X.env) :: starEach es X.env) (hs2 : (starEach es X.env).any (·.1) = false) :
    PE X (.Call (.Name x p) (e :: es) [] pos) (tEv X.K fun ρ S => (fs ρ S).bind fun vs S => f vs S) := by
  obtain ⟨a1, _, a3⟩ := ok_name hx
  exact PE.wk (pe_callTy hc (gl_of hg) hm hv ha a3 a1 hs (star_len hs2 _)) fun σ H Q h => rdN h
/-- the built-ins of the table -/
theorem bi_rule {x : Str} {b : Bi} (hc : X.calm = true) (hu : X.A.units + 70 < cLine) (h : biName.lookup x = some b) : ∃ id : String, CallR X (.builtin id) (rN X.K (biD b)) ∧ bootBuiltins x = some (.builtin id) ∧ x ∈ bltNames := by
  have hx := PySem.mem_of_lookup h
  simp only [biName, List.mem_cons, Prod.mk.injEq, List.not_mem_nil, or_false] at hx
  rcases hx with ⟨rfl, rfl⟩ | ⟨rfl, rfl⟩ | ⟨rfl, rfl⟩ | ⟨rfl, rfl⟩ | ⟨rfl, rfl⟩ | ⟨rfl, rfl⟩ | ⟨rfl, rfl⟩ | ⟨rfl, rfl⟩ | ⟨rfl, rfl⟩
  · exact ⟨_, c_len, by decide +kernel, by decide +kernel⟩
  · exact ⟨_, c_abs, by decide +kernel, by decide +kernel⟩
  · exact ⟨_, c_all hc, by decide +kernel, by decide +kernel⟩
  · exact ⟨_, c_any hc, by decide +kernel, by decide +kernel⟩
  · exact ⟨_, c_sum hc, by decide +kernel, by decide +kernel⟩
  · exact ⟨_, c_sorted hc hu, by decide +kernel, by decide +kernel⟩
  · exact ⟨_, c_max hc, by decide +kernel, by decide +kernel⟩
  · exact ⟨_, c_min hc, by decide +kernel, by decide +kernel⟩
  · exact ⟨_, c_ord, by decide +kernel, by decide +kernel⟩
theorem e_isi {p q pos : Pos} {a : Expr} {t : Str} {ty : Ty} {f : Env → Sto → R D} (gd : Gd C c k fnb X) (hg : glb X.env.scope "isinstance" = true) (ht : glb X.env.scope t = true) (hx : okName t = true) (hty : tyName.lookup t = some ty) (ha : PE X a (tEv X.K f)) (hs : starEach [a, .Name t q] X.env = (false, PySem.eval a X.env) :: starEach [.Name t q] X.env) :
    PE X (.Call (.Name "isinstance" p) [a, .Name t q] [] pos) (tEv X.K fun ρ S => (f ρ S).bind fun x S => (lft (isiD x ty) S).bind fun t S => .ok (.bl t) S) := by
  obtain ⟨a1, _, a3⟩ := ok_name hx
  have key : t ∈ bltNames ∧ bootBuiltins t = some (.type (tyN ty)) := by
    have hx := PySem.mem_of_lookup hty
    simp only [tyName, List.mem_cons, Prod.mk.injEq, List.not_mem_nil, or_false] at hx
    rcases hx with ⟨rfl, rfl⟩ | ⟨rfl, rfl⟩ | ⟨rfl, rfl⟩ | ⟨rfl, rfl⟩ | ⟨rfl, rfl⟩ <;> exact ⟨by decide +kernel, by decide +kernel⟩
  have hN : PE X (.Name t q) (tC (.ty (tyN ty))) := pe_bltn (gl_of ht) (gd.blt _ key.1) key.2 rfl a3 a1
  refine PE.wk (pe_callB (c_isi (t := ty)) (gl_of hg) (gd.blt _ (by decide +kernel)) (by decide +kernel) (pa_cons ha (pa_cons hN pa_nil rfl) hs) (by decide) (by decide) hs rfl) fun σ H Q ⟨m, S, ρ, r, e, cc⟩ => ?_
  exact (rd1 (RV := DV X.K) (g := fun x _ S => isiR ty x S) r e cc).mono fun v H1 ⟨m1, S1, x, r1, _, hv, c1⟩ => ⟨v, rfl, m1, S1, x, r1, hv, c1⟩
/-! list(..), tuple(..) -/
theorem src_good {x : D} {S : Sto} {s : Src} (h : srcD x S = some s) : Src.good s.watch S := by
  cases x with
  | tup xs => cases h; exact fun p hp => by cases hp
  | fls xs => cases h; exact fun p hp => by cases hp
  | ref a =>
    unfold srcD at h
    dsimp only at h
    split at h
    · rename_i e
      cases h
      intro p hp
      cases List.mem_singleton.mp hp
      exact e
    · cases h
  | _ => cases h
theorem vals_pt {P : Nat → Value → Prop} {f : Nat → V} (hP : ∀ i v, P i v → RelV (f i) v) : ∀ (us : List Value) (k : Nat), (∀ j v, us[j]? = some v → P (k + j) v) → Vals ((List.range' k us.length).map f) us
  | [], _, _ => .nil
  | u :: us, k, h => by
    rw [List.length_cons, List.range'_succ, List.map_cons]
    refine .cons (hP _ _ (h 0 u rfl)) (vals_pt hP us (k + 1) fun j v hj => ?_)
    have := h (j + 1) v hj
    rwa [show k + (j + 1) = k + 1 + j by omega] at this
theorem call_list_sg (hc : X.calm = true) : CallR X (.type "list") (fun xs H Q => ∃ z : Str, xs = [.str z] ∧ z.length ≤ sizeLine ∧ ∀ l, H l = none → Q (.ref l) (upd H l (.lst (z.cps.toList.map fun c => V.str ⟨#[c]⟩)))) := by
  intro pins s σ H xs us Q I r h
  obtain ⟨z, rfl, hz, q⟩ := h
  obtain ⟨u, rfl, t, rfl⟩ := vals1 r
  refine call_list_str (I.ok.hd hc) z t (hn := hz) fun h' tk acc c' kp e hacc => ?_
  have hv : Vals (z.cps.toList.map fun c => V.str ⟨#[c]⟩) acc.toList := by
    have := vals_pt (P := SignAt z) (f := fun i => V.str ⟨#[z.cps.toList.getD i 0]⟩) (fun i v ⟨c, u, hc, hv⟩ => ?_) acc.toList 0 fun j v hj => by rw [Nat.zero_add]; exact hacc.2 j v (by simpa using hj)
    · have hl : acc.toList.length = z.cps.toList.length := by rw [Array.length_toList, hacc.1, Array.length_toList]
      rw [hl] at this
      have e2 : ((List.range' 0 z.cps.toList.length).map fun i => V.str ⟨#[z.cps.toList.getD i 0]⟩) = z.cps.toList.map fun c => V.str ⟨#[c]⟩ := by
        refine List.ext_getElem (by simp) fun i h1 h2 => ?_
        rw [List.getElem_map, List.getElem_map, List.getElem_range']
        rw [List.length_map] at h2
        rw [show 0 + 1 * i = i by omega, List.getD_eq_getElem?_getD, List.getElem?_eq_getElem h2]
        rfl
      rw [e2] at this
      exact this
    · rw [hv]
      have : z.cps.toList.getD i 0 = c := by
        rw [List.getD_eq_getElem?_getD, Array.getElem?_toList, hc]
        rfl
      rw [this]
      exact ⟨u, rfl⟩
  have hlen := hv.length
  exact ⟨.ref s.heap.objs.size, _, I.laid (t' := tk) kp (Nat.le_refl _) (show ObjOk X.prog X.w _ h' _ (.lst _) from ⟨by rw [List.length_map, Array.length_toList]; exact hz, acc.toList, c', hv, by simpa using e⟩), rfl, q _ (I.hok.fresh (Nat.le_refl _))⟩
theorem e_listOf {p pos : Pos} {a : Expr} {f : Env → Sto → R D} (gd : Gd C c k fnb X) (hg : glb X.env.scope "list" = true) (ha : PE X a (tEv X.K f)) (hs : starEach [a] X.env = [(false, PySem.eval a X.env)]) :
    PE X (.Call (.Name "list" p) [a] [] pos) (tEv X.K fun ρ S => ((f ρ S).bind fun x S => lft (srcS x S) S).bind fun s S => alloc (.lst s.items) S) := by
  refine PE.wk (pe_callTy (CallR.or call_list_of (call_list_sg gd.calm)) (gl_of hg) (gd.blt _ (by decide +kernel)) (by decide +kernel) (pa_cons ha pa_nil hs) (by decide) (by decide) hs rfl) fun σ H Q ⟨m, S, ρ, r, e, cc⟩ => ?_
  simp only [R.bind_assoc] at cc
  refine (rd1 (RV := DV X.K) (g := fun x _ S => (lft (srcS x S) S).bind fun s S => alloc (.lst s.items) S) r e cc).mono fun v H1 ⟨m1, S1, x, r1, _, hv, c1⟩ => ?_
  cases hsr : srcS x S1 with
  | none => rw [hsr] at c1; exact False.elim c1
  | some s =>
    rw [hsr, lft_some, R.bind_ok] at c1
    by_cases hz : ∃ z, x = .str z
    · obtain ⟨z, rfl⟩ := hz
      cases hsr
      cases hv with
      | str z hz =>
        refine .inr ⟨z, rfl, by rw [← max_line]; exact hz.1, newLst r1 ?_ (by rw [List.length_map, Array.length_toList, ← max_line]; exact hz.1) c1⟩
        have key : ∀ l : List Nat, (∀ c ∈ l, c ∈ z.cps.toList) → DVs X.K m1 H1 (l.map fun c => V.str ⟨#[c]⟩) (l.map fun c => D.str ⟨#[c]⟩) := fun l => by
          induction l with
          | nil => exact fun _ => .nil
          | cons c l ih => exact fun h => .cons (.str _ ⟨by show 1 ≤ sizeMax; decide, strOk_one hz.2 (h c List.mem_cons_self)⟩) (ih fun d hd => h d (List.mem_cons_of_mem _ hd))
        exact key _ fun _ h => h
    · have hsr : srcD x S1 = some s := by
        cases x with
        | str z => exact absurd ⟨z, rfl⟩ hz
        | _ => exact hsr
      obtain ⟨hl, q, rfl, ⟨_, _, h3⟩ | ⟨⟨_, h3⟩, _⟩⟩ := src_at0 r1 hv hsr
      · obtain ⟨vs, h4, h5⟩ := h3 m1 S1 H1 (Gro.refl _ _).w r1
        exact .inl ⟨q, vs, rfl, .inr (.inl (.inl h4)), newLst r1 h5 (by rw [h5.length]; exact hl) c1⟩
      · obtain ⟨vs, h4, h5⟩ := h3 m1 S1 H1 (Gro.refl _ _).w r1 (src_good hsr)
        exact .inl ⟨q, vs, rfl, .inl h4, newLst r1 h5 (by rw [h5.length]; exact hl) c1⟩
theorem e_tupOf {p pos : Pos} {a : Expr} {f : Env → Sto → R D} (gd : Gd C c k fnb X) (hg : glb X.env.scope "tuple" = true) (ha : PE X a (tEv X.K f)) (hs : starEach [a] X.env = [(false, PySem.eval a X.env)]) :
    PE X (.Call (.Name "tuple" p) [a] [] pos) (tEv X.K fun ρ S => ((f ρ S).bind fun x S => lft (srcD x S) S).bind fun s S => .ok (.tup s.items) S) := by
  refine PE.wk (pe_callTy call_tuple_of (gl_of hg) (gd.blt _ (by decide +kernel)) (by decide +kernel) (pa_cons ha pa_nil hs) (by decide) (by decide) hs rfl) fun σ H Q ⟨m, S, ρ, r, e, cc⟩ => ?_
  simp only [R.bind_assoc] at cc
  refine (rd1 (RV := DV X.K) (g := fun x _ S => (lft (srcD x S) S).bind fun s S => .ok (.tup s.items) S) r e cc).mono fun v H1 ⟨m1, S1, x, r1, _, hv, c1⟩ => ?_
  cases hsr : srcD x S1 with
  | none => rw [hsr] at c1; exact False.elim c1
  | some s =>
    rw [hsr, lft_some, R.bind_ok] at c1
    obtain ⟨hl, q, rfl, ⟨_, _, h3⟩ | ⟨⟨_, h3⟩, _⟩⟩ := src_at0 r1 hv hsr
    · obtain ⟨vs, h4, h5⟩ := h3 m1 S1 H1 (Gro.refl _ _).w r1
      exact ⟨q, vs, rfl, .inr ⟨.inl (.inl h4), Cont.done c1 r1 (.tup h4 h5)⟩⟩
    · obtain ⟨vs, h4, h5⟩ := h3 m1 S1 H1 (Gro.refl _ _).w r1 (src_good hsr)
      exact ⟨q, vs, rfl, .inl ⟨h4, newTup r1 h5 (by rw [h5.length]; exact hl) c1⟩⟩
theorem rg_dvs {K : PySem.W.Frag} {m : List Addr} {H : Hp} {i j : Int} : DVs K m H (rgV i j) (rangeL i j) := by
  unfold rgV rangeL
  induction List.range (j - i).toNat with
  | nil => exact .nil
  | cons a b ih => exact .cons (.int _) ih
theorem rg_ok {i j : Int} (h1 : big62 i) (h2 : big62 j) (h3 : (j - i).toNat ≤ sizeMax) : RgOk i j := ⟨h1.1, h1.2, h2.1, h2.2, h3⟩
theorem rg_len {i j : Int} (h3 : (j - i).toNat ≤ sizeMax) : (rgV i j).length ≤ sizeLine := by rw [rgV_length, ← max_line]; exact h3
theorem rg1_rd {f : Env → Sto → R D} {g : Src → Sto → R D} {σ : Sg} {H : Hp} {Q : VK} (h : tEv X.K (fun ρ S => ((f ρ S).bind fun x S => lft (rangeSrc (.int 0) x) S).bind fun s S => g s S) σ H Q) :
    tRg1 (tEv X.K f) σ H fun i j H1 => RgOk i j ∧ (rgV i j).length ≤ sizeLine ∧ ∃ m S, Rl X.K m S H1 ∧ Cont X.K (DV X.K) (g ⟨rangeL i j, []⟩ S) m H1 Q := by
  obtain ⟨m, S, ρ, r, e, cc⟩ := h
  simp only [R.bind_assoc] at cc
  refine (rd1 (RV := DV X.K) (g := fun x _ S => (lft (rangeSrc (.int 0) x) S).bind fun s S => g s S) r e cc).mono fun v H1 ⟨m1, S1, x, r1, _, hv, c1⟩ => ?_
  cases hr : rangeSrc (.int 0) x with
  | none => rw [hr] at c1; exact False.elim c1
  | some s =>
    obtain ⟨i, j, h0, rfl, h1, h2, h3, rfl⟩ := rng_get hr
    cases h0
    cases hv
    rw [hr] at c1
    exact ⟨j, rfl, rg_ok h1 h2 h3, rg_len h3, m1, S1, r1, c1⟩
theorem rg2_rd {f f' : Env → Sto → R D} {g : Src → Sto → R D} {σ : Sg} {H : Hp} {Q : VK} (h : tEv X.K (fun ρ S => ((f ρ S).bind fun x S => (f' ρ S).bind fun y S => lft (rangeSrc x y) S).bind fun s S => g s S) σ H Q) :
    tRg2 (tEv X.K f) (tEv X.K f') σ H fun i j H1 => RgOk i j ∧ (rgV i j).length ≤ sizeLine ∧ ∃ m S, Rl X.K m S H1 ∧ Cont X.K (DV X.K) (g ⟨rangeL i j, []⟩ S) m H1 Q := by
  obtain ⟨m, S, ρ, r, e, cc⟩ := h
  simp only [R.bind_assoc] at cc
  refine (rd2 (RV := DV X.K) (g := fun x y S => (lft (rangeSrc x y) S).bind fun s S => g s S) r e cc).mono fun v H1 q => q.mono fun u H2 ⟨m1, S1, x, y, r1, hv, hu, c1⟩ => ?_
  cases hr : rangeSrc x y with
  | none => rw [hr] at c1; exact False.elim c1
  | some s =>
    obtain ⟨i, j, rfl, rfl, h1, h2, h3, rfl⟩ := rng_get hr
    cases hv
    cases hu
    rw [hr] at c1
    exact ⟨i, j, rfl, rfl, rg_ok h1 h2 h3, rg_len h3, m1, S1, r1, c1⟩
theorem tRg_mono {e : Expr} {te : L2.St → Hp → (Int → Int → Hp → Prop) → Prop} : True := trivial
theorem e_list1 {p p2 pos pos2 : Pos} {a : Expr} {f : Env → Sto → R D} (gd : Gd C c k fnb X) (hg : glb X.env.scope "list" = true) (hg2 : glb X.env.scope "range" = true) (ha : PE X a (tEv X.K f)) (hs : starEach [a] X.env = [(false, PySem.eval a X.env)]) :
    PE X (.Call (.Name "list" p) [.Call (.Name "range" p2) [a] [] pos2] [] pos) (tEv X.K fun ρ S => ((f ρ S).bind fun x S => lft (rangeSrc (.int 0) x) S).bind fun s S => alloc (.lst s.items) S) :=
  PE.wk (pe_listRg gd.calm (gl_of hg) (gd.blt _ (by decide +kernel)) (prg_1 (gl_of hg2) (gd.blt _ (by decide +kernel)) ha hs)) fun σ H Q h => by
    obtain ⟨m, S, ρ, r, e, cc⟩ := rg1_rd h
    exact ⟨m, S, ρ, r, e, cc.imp fun v H1 ⟨n, e, a1, a2, m1, S1, r1, c1⟩ => ⟨n, e, a1, newLst r1 rg_dvs a2 c1⟩⟩
theorem e_tup1 {p p2 pos pos2 : Pos} {a : Expr} {f : Env → Sto → R D} (gd : Gd C c k fnb X) (hg : glb X.env.scope "tuple" = true) (hg2 : glb X.env.scope "range" = true) (ha : PE X a (tEv X.K f)) (hs : starEach [a] X.env = [(false, PySem.eval a X.env)]) :
    PE X (.Call (.Name "tuple" p) [.Call (.Name "range" p2) [a] [] pos2] [] pos) (tEv X.K fun ρ S => ((f ρ S).bind fun x S => lft (rangeSrc (.int 0) x) S).bind fun s S => .ok (.tup s.items) S) :=
  PE.wk (pe_tupRg gd.calm (gl_of hg) (gd.blt _ (by decide +kernel)) (prg_1 (gl_of hg2) (gd.blt _ (by decide +kernel)) ha hs)) fun σ H Q h => by
    obtain ⟨m, S, ρ, r, e, cc⟩ := rg1_rd h
    exact ⟨m, S, ρ, r, e, cc.imp fun v H1 ⟨n, e, a1, a2, m1, S1, r1, c1⟩ => ⟨n, e, a1, newTup r1 rg_dvs a2 c1⟩⟩
theorem e_list2 {p p2 pos pos2 : Pos} {a b : Expr} {f f' : Env → Sto → R D} (gd : Gd C c k fnb X) (hg : glb X.env.scope "list" = true) (hg2 : glb X.env.scope "range" = true) (ha : PE X a (tEv X.K f)) (hb : PE X b (tEv X.K f')) (hs : starEach [a, b] X.env = (false, PySem.eval a X.env) :: starEach [b] X.env) (hs2 : starEach [b] X.env = [(false, PySem.eval b X.env)]) :
    PE X (.Call (.Name "list" p) [.Call (.Name "range" p2) [a, b] [] pos2] [] pos) (tEv X.K fun ρ S => ((f ρ S).bind fun x S => (f' ρ S).bind fun y S => lft (rangeSrc x y) S).bind fun s S => alloc (.lst s.items) S) :=
  PE.wk (pe_listRg gd.calm (gl_of hg) (gd.blt _ (by decide +kernel)) (prg_2 (gl_of hg2) (gd.blt _ (by decide +kernel)) ha hb hs hs2 (by rw [hs2]; rfl))) fun σ H Q h => by
    obtain ⟨m, S, ρ, r, e, cc⟩ := rg2_rd h
    exact ⟨m, S, ρ, r, e, cc.imp fun v H1 q => q.mono fun u H2 ⟨i, j, e1, e2, a1, a2, m1, S1, r1, c1⟩ => ⟨i, j, e1, e2, a1, newLst r1 rg_dvs a2 c1⟩⟩
theorem e_tup2 {p p2 pos pos2 : Pos} {a b : Expr} {f f' : Env → Sto → R D} (gd : Gd C c k fnb X) (hg : glb X.env.scope "tuple" = true) (hg2 : glb X.env.scope "range" = true) (ha : PE X a (tEv X.K f)) (hb : PE X b (tEv X.K f')) (hs : starEach [a, b] X.env = (false, PySem.eval a X.env) :: starEach [b] X.env) (hs2 : starEach [b] X.env = [(false, PySem.eval b X.env)]) :
    PE X (.Call (.Name "tuple" p) [.Call (.Name "range" p2) [a, b] [] pos2] [] pos) (tEv X.K fun ρ S => ((f ρ S).bind fun x S => (f' ρ S).bind fun y S => lft (rangeSrc x y) S).bind fun s S => .ok (.tup s.items) S) :=
  PE.wk (pe_tupRg gd.calm (gl_of hg) (gd.blt _ (by decide +kernel)) (prg_2 (gl_of hg2) (gd.blt _ (by decide +kernel)) ha hb hs hs2 (by rw [hs2]; rfl))) fun σ H Q h => by
    obtain ⟨m, S, ρ, r, e, cc⟩ := rg2_rd h
    exact ⟨m, S, ρ, r, e, cc.imp fun v H1 q => q.mono fun u H2 ⟨i, j, e1, e2, a1, a2, m1, S1, r1, c1⟩ => ⟨i, j, e1, e2, a1, newTup r1 rg_dvs a2 c1⟩⟩
theorem ints_vs {K : PySem.W.Frag} {m : List Addr} {H : Hp} : ∀ ns : List Int, DVs K m H (ns.map V.int) (ns.map D.int)
  | [] => .nil
  | x :: ns => .cons (.int x) (ints_vs ns)
theorem DVs.rev {K : PySem.W.Frag} {m : List Addr} {H : Hp} : ∀ {vs : List V} {ds : List D}, DVs K m H vs ds → DVs K m H vs.reverse ds.reverse
  | _, _, .nil => .nil
  | _, _, .cons h t => by
    rw [List.reverse_cons, List.reverse_cons]
    exact (DVs.rev t).append (.cons h .nil)
theorem e_sset {p p2 pos pos2 : Pos} {a : Expr} {f : Env → Sto → R D} (gd : Gd C c k fnb X) (hg : glb X.env.scope "sorted" = true) (hg2 : glb X.env.scope "set" = true) (ha : PE X a (tEv X.K f)) (hs : starEach [a] X.env = [(false, PySem.eval a X.env)]) :
    PE X (.Call (.Name "sorted" p) [.Call (.Name "set" p2) [a] [] pos2] [] pos) (tEv X.K fun ρ S => (f ρ S).bind fun x S => ssetD x S) := by
  refine PE.wk (pe_sset gd.hu70 gd.calm (gl_of hg) (gd.blt _ (by decide +kernel)) (gl_of hg2) (gd.blt _ (by decide +kernel)) ha hs) fun σ H Q ⟨m, S, ρ, r, e, cc⟩ => ?_
  refine (rd1 (RV := DV X.K) (g := fun x _ S => ssetD x S) r e cc).mono fun v H1 ⟨m1, S1, x, r1, _, hv, c1⟩ => ?_
  unfold ssetD at c1
  cases h1 : items x S1 with
  | none => rw [h1] at c1; exact False.elim c1
  | some ys =>
    rw [h1, lft_some, R.bind_ok] at c1
    have hrow : ∃ q vs, v = .ref q ∧ DVs X.K m1 H1 vs ys ∧ (SqL X.K H1 q vs ∨ H1 q = some (.tup vs)) := by
      by_cases ht : ∃ xs, x = .tup xs
      · obtain ⟨xs, rfl⟩ := ht
        cases hv with
        | tup hs hd =>
          cases h1
          exact ⟨_, _, rfl, hd, .inr hs⟩
      · have h1 : lstItems x S1 = some ys := by cases x <;> first | exact h1 | exact absurd ⟨_, rfl⟩ ht
        obtain ⟨q, vs, rfl, hd, hq⟩ := lst_at r1 hv h1
        exact ⟨q, vs, rfl, hd, .inl hq⟩
    obtain ⟨q, vs, rfl, hd, hq⟩ := hrow
    cases h2 : intsOf ys with
    | some ns =>
      rw [h2] at c1
      dsimp only at c1
      rw [intsOf_vs h2 hd] at hq
      split at c1
      · rename_i hl
        have hlen : ∀ ns : List Int, (uniqI ns).length ≤ ns.length := fun ns => by
          have hi : ∀ (x : Int) (r : List Int), (ins x r).length ≤ r.length + 1 := fun x r => by
            induction r with
            | nil => exact Nat.le_refl _
            | cons y r ih =>
              unfold ins
              split
              · exact Nat.le_refl _
              · split
                · exact Nat.le_succ _
                · exact Nat.succ_le_succ ih
          induction ns with
          | nil => exact Nat.le_refl _
          | cons x ns ih => exact Nat.le_trans (hi x _) (Nat.succ_le_succ ih)
        exact ⟨q, rfl, .inl ⟨ns, hq, hl, newLst r1 (ints_vs _) (by rw [List.length_map, sizeLine_eq]; have := hlen ns; omega) c1⟩⟩
      · exact False.elim c1
    | none =>
      rw [h2] at c1
      dsimp only at c1
      cases h3 : tupsOf ys with
      | none => rw [h3] at c1; exact False.elim c1
      | some ks =>
        rw [h3, lft_some, R.bind_ok] at c1
        split at c1
        · rename_i hl
          have hks : ∀ {ys : List D} {ks : List (List Int)} {vs : List V}, tupsOf ys = some ks → DVs X.K m1 H1 vs ys → ∃ L : List (Addr × List Int), vs = L.map (fun p => V.ref p.1) ∧ L.map (·.2) = ks ∧ ∀ p ∈ L, H1 p.1 = some (.tup (p.2.map V.int)) := by
            intro ys
            induction ys with
            | nil => intro ks vs e h; cases e; cases h; exact ⟨[], rfl, rfl, fun p hp => by cases hp⟩
            | cons d ys ih =>
              intro ks vs e h
              cases h with
              | cons h4 h5 =>
                cases h4 with
                | tup h6 h7 =>
                  obtain ⟨k, e1, e2⟩ := Option.bind_eq_some_iff.mp (show (intsOf _).bind _ = some ks from e)
                  obtain ⟨ks', e3, rfl⟩ := Option.map_eq_some_iff.mp e2
                  obtain ⟨L, rfl, g2, g3⟩ := ih e3 h5
                  rw [intsOf_vs e1 h7] at h6
                  refine ⟨(_, k) :: L, rfl, by rw [List.map_cons, g2], fun p hp => ?_⟩
                  rcases List.mem_cons.mp hp with rfl | hp
                  · exact h6
                  · exact g3 p hp
                | _ => simp [tupsOf] at e
          obtain ⟨L, rfl, g2, g3⟩ := hks h3 hd
          refine ⟨q, rfl, .inr ⟨L, hq, g3, by rw [← List.length_map (f := fun p : Addr × List Int => p.2), g2]; exact hl, fun p ws hp hw => ?_⟩⟩
          rw [g2] at hw
          have hw : DVs X.K m1 H1 ws ((uniqT ks).map fun k => .tup (k.map .int)) := DVs.ext (m := []) (fun n a h => by simp at h) hw
          exact newLst r1 hw (by rw [hw.length, List.length_map, sizeLine_eq]; have := uniqT_len ks; omega) c1 p hp
        · exact False.elim c1
theorem e_revT {p p2 pos pos2 : Pos} {a : Expr} {f : Env → Sto → R D} (gd : Gd C c k fnb X) (hg : glb X.env.scope "tuple" = true) (hg2 : glb X.env.scope "reversed" = true) (ha : PE X a (tEv X.K f)) (hs : starEach [a] X.env = [(false, PySem.eval a X.env)]) :
    PE X (.Call (.Name "tuple" p) [.Call (.Name "reversed" p2) [a] [] pos2] [] pos) (tEv X.K fun ρ S => (f ρ S).bind fun x S => revD x S) := by
  refine PE.wk (RT.pe_tupRevT gd.calm (gl_of hg) (gd.blt _ (by decide +kernel)) (gl_of hg2) (gd.blt _ (by decide +kernel)) ha hs) fun σ H Q ⟨m, S, ρ, r, e, cc⟩ => ?_
  refine (rd1 (RV := DV X.K) (g := fun x _ S => revD x S) r e cc).mono fun v H1 ⟨m1, S1, x, r1, _, hv, c1⟩ => ?_
  cases hv with
  | tup hs hd =>
    have hl := r1.lenT hs
    refine ⟨_, _, rfl, hs, newTup r1 ?_ (by rw [List.length_reverse]; exact hl) c1⟩
    exact DVs.rev hd
  | _ => exact False.elim c1
/-! append, subscripts -/
theorem plainIx {b : Expr} (h : isSlice b = false) : PlainIx b := by
  intro _ _
  cases b <;> first | rfl | (simp [isSlice] at h)
theorem e_ix {a b : Expr} {pos : Pos} {f g : Env → Sto → R D} (gd : Gd C c k fnb X) (ha : PE X a (tEv X.K f)) (hb : PE X b (tEv X.K g)) (h : isSlice b = false) : PE X (.Subscript a b pos) (tEv X.K fun ρ S => (f ρ S).bind fun x S => (g ρ S).bind fun y S => lft (ixD x y S) S) :=
  PE.wk (pe_ix (i_ix gd.kd (by have := gd.hu; omega)) ha hb (plainIx h)) fun σ H Q ⟨m, S, ρ, r, e, cc⟩ => rd2 (RV := DV X.K) (g := ixR) r e cc
theorem mt_rule (hu : X.A.units + 65 < cLine) {base : Nat} {x : Str} {mt : Mt} (h : mtName.lookup x = some mt) : ∃ id : String, Slot "list" x id ∧ typeOf (.builtin id) = pure (.type "method_descriptor") ∧ MtR X id (rM X.K (methD base mt)) := by
  have hx := PySem.mem_of_lookup h
  simp only [mtName, List.mem_cons, Prod.mk.injEq, List.not_mem_nil, or_false] at hx
  rcases hx with ⟨rfl, rfl⟩ | ⟨rfl, rfl⟩ | ⟨rfl, rfl⟩
  · exact ⟨_, PySem.F.slot_list_append, PySem.F.type_list_append, m_append⟩
  · exact ⟨_, PySem.F.slot_list_pop, PySem.F.type_list_pop, m_pop⟩
  · exact ⟨_, PySem.F.slot_list_index, rfl, m_index hu⟩
theorem e_app (gd : Gd C c k fnb X) {o mn : Str} {mt : Mt} {p ap cp : Pos} {a : Expr} {f g : Env → Sto → R D} (hmt : mtName.lookup mn = some mt) (hl : (ap.endLine == cp.line) = true) (ho : PE X (.Name o p) (tEv X.K f)) (ha : PE X a (tEv X.K g)) (hs : starEach [a] X.env = [(false, PySem.eval a X.env)]) :
    PE X (.Call (.Attribute (.Name o p) mn ap) [a] [] cp) (tEv X.K fun ρ S => (f ρ S).bind fun x S => (lft (mtOk x S) S).bind fun _ S => ((g ρ S).bind fun y S => (R.ok [] S).bind fun ys S => .ok (y :: ys) S).bind fun vs S => methD c.base mt x vs S) := by
  obtain ⟨id, slot, hty, hm⟩ := mt_rule (X := X) (by have := gd.hu70; omega) (base := c.base) hmt
  refine PE.wk (pe_bm PySem.F.plainAttrs_list slot hty hm ho (a_cons ha a_nil hs) rfl (by rw [hs]; rfl) hl hs rfl) fun σ H Q ⟨m, S, ρ, r, e, cc⟩ => ?_
  refine (rd1 (RV := DV X.K) (g := fun x ρ S => (lft (mtOk x S) S).bind fun _ S => ((g ρ S).bind fun y S => (R.ok [] S).bind fun ys S => .ok (y :: ys) S).bind fun vs S => methD c.base mt x vs S) r e cc).mono fun v H1 ⟨m1, S1, x, r1, e1, hv, c0⟩ => ?_
  cases hmo : mtOk x S1 with
  | none => rw [hmo] at c0; exact False.elim c0
  | some u =>
    rw [hmo, lft_some, R.bind_ok] at c0
    refine ⟨?_, m1, S1, ρ, r1, e1, (Cont.bind (RV := DVs X.K) c0).imp fun vs H2 ⟨xs, m2, S2, G, r2, hvs, c2⟩ => ⟨m2, S2, x, xs, r2, hv.mono r1 G, hvs, c2⟩⟩
    cases hv with
    | @ref a n hm =>
      unfold mtOk at hmo
      dsimp only at hmo
      split at hmo
      · rename_i ds e2
        obtain ⟨xs, hh, _⟩ := r1.at hm e2
        exact .inl ⟨rfl, xs, .inl (.inl hh)⟩
      · cases hmo
    | _ => cases hmo
/-- find, join -/
theorem pre_one {a c : Nat} {r : List Nat} : TL.pre [a] (c :: r) = true ↔ c = a := by
  by_cases h : c = a
  · subst h
    have := TL.pre_self [c] r
    exact ⟨fun _ => rfl, fun _ => this⟩
  · rw [TL.pre_of_head [] r h]
    exact ⟨fun e => (by cases e), fun e => absurd e h⟩
theorem find_at {z : Str} (c : Nat) : PySem.Txt.find z ⟨#[c]⟩ = findC z c := by
  have at_ : ∀ i, PySem.StrLaws.At z ⟨#[c]⟩ z.length i ↔ z.cps.toList[i]? = some c := fun i => by
    rw [TL.at_iff (by simp [TL.tl])]
    show TL.pre [c] ((TL.tl z).drop i) = true ↔ _
    have : z.cps.toList = TL.tl z := rfl
    rw [this]
    by_cases hi : i < (TL.tl z).length
    · rw [List.drop_eq_getElem_cons hi, List.getElem?_eq_getElem hi, pre_one]
      constructor
      · intro e; rw [e]
      · intro e; exact Option.some.inj e
    · rw [List.drop_eq_nil_of_le (by omega), List.getElem?_eq_none (by omega), TL.pre_nil (by simp)]
      constructor
      · intro e; cases e
      · intro e; cases e
  unfold findC
  rcases find_whole z ⟨#[c]⟩ with ⟨h1, h2⟩ | ⟨i, h1, h2, h3⟩
  · rw [h1]
    have : z.cps.toList.findIdx? (fun d => d == c) = none := by
      rw [List.findIdx?_eq_none_iff]
      intro d hd
      rw [beq_eq_false_iff_ne]
      rintro rfl
      obtain ⟨i, hi⟩ := List.mem_iff_getElem?.mp hd
      exact h2 i ((at_ i).mpr hi)
    rw [this]
  · rw [h1]
    have : z.cps.toList.findIdx? (fun d => d == c) = some i := by
      rw [List.findIdx?_eq_some_iff_getElem]
      obtain ⟨hi, e⟩ := List.getElem?_eq_some_iff.mp ((at_ i).mp h2)
      refine ⟨hi, by rw [e]; simp, fun j hj => ?_⟩
      intro hq
      exact h3 j hj ((at_ j).mpr (by rw [List.getElem?_eq_getElem (by omega)]; exact congrArg some (eq_of_beq hq)))
    rw [this]
theorem strsOf_vs {K : PySem.W.Frag} {m : List Addr} {H : Hp} : ∀ {ds : List D} {bs : List Str} {vs : List V}, strsOf ds = some bs → DVs K m H vs ds → vs = bs.map V.str ∧ ∀ z ∈ bs, PyData.strOk z = true
  | [], _, _, h, .nil => by cases h; exact ⟨rfl, fun _ h => by cases h⟩
  | .str z :: r, _, _, h, .cons (.str _ hz) t => by
    obtain ⟨bs, h1, rfl⟩ := Option.map_eq_some_iff.mp h
    obtain ⟨h2, h3⟩ := strsOf_vs h1 t
    exact ⟨by rw [h2]; rfl, fun y hy => by
      rcases List.mem_cons.mp hy with rfl | hy
      · exact hz.2
      · exact h3 y hy⟩
theorem join_at {a : Str} (ha : a.length = 0) (ys : List Str) : PySem.Txt.join a ys = catS ys := by
  rw [TL.join_eq]
  refine TL.ext_tl ?_
  rw [TL.tl_join]
  have h0 : TL.tl a = [] := (TL.len0_tl a).mp ha
  rw [h0]
  unfold catS
  show _ = (ys.flatMap fun y => y.cps.toList)
  have : ∀ ys : List Str, TL.joinL [] (ys.map TL.tl) = ys.flatMap fun y => y.cps.toList := fun ys => by
    induction ys with
    | nil => rfl
    | cons y ys ih =>
      rw [List.flatMap_cons, ← ih]
      cases ys with
      | nil => simp [TL.joinL, TL.tl]
      | cons z ys => simp [TL.joinL, TL.tl]
  exact this ys
theorem e_str (gd : Gd C c k fnb X) {o a : Expr} {mn : Str} {b : Bi} {ap cp : Pos} {f g : Env → Sto → R D} (hmt : smName.lookup mn = some b) (hl : (ap.endLine == cp.line) = true) (hbase : attributeBase o mn X.env (PySem.eval o X.env) = PySem.eval o X.env) (ho : PE X o (tEv X.K f)) (ha : PE X a (tEv X.K g)) (hs : starEach [a] X.env = [(false, PySem.eval a X.env)]) :
    PE X (.Call (.Attribute o mn ap) [a] [] cp) (tEv X.K fun ρ S => ((f ρ S).bind fun x S => ((g ρ S).bind fun y S => (R.ok [] S).bind fun ys S => .ok (y :: ys) S).bind fun xs S => .ok (x :: xs) S).bind fun vs S => biD b vs S) := by
  have red : ∀ (ρ : Env) (S : Sto), (((f ρ S).bind fun x S => ((g ρ S).bind fun y S => (R.ok [] S).bind fun ys S => .ok (y :: ys) S).bind fun xs S => .ok (x :: xs) S).bind fun vs S => biD b vs S) = (f ρ S).bind fun x S => (g ρ S).bind fun y S => bi2 b x y S := fun ρ S => by
    rw [R.bind_assoc]
    congr 1
    funext x S1
    rw [R.bind_assoc, R.bind_assoc]
    rfl
  simp only [red]
  have hx := PySem.mem_of_lookup hmt
  simp only [smName, List.mem_cons, Prod.mk.injEq, List.not_mem_nil, or_false] at hx
  have isStr : ∀ {x : D} {ρ : Env} {S : Sto} {m : List Addr} {H : Hp} {Q : VK}, Cont X.K (DV X.K) ((g ρ S).bind fun y S => bi2 b x y S) m H Q → (b = .find ∨ b = .join) → ∃ z, x = .str z := fun {x ρ S m H Q} cc hb => by
    obtain ⟨_, _, e1⟩ := cc.get
    obtain ⟨y, S2, _, e2⟩ := bind_get e1
    cases x with
    | str z => exact ⟨z, rfl⟩
    | int i => cases y <;> rcases hb with rfl | rfl <;> cases e2
    | _ => cases e2
  rcases hx with ⟨rfl, rfl⟩ | ⟨rfl, rfl⟩
  · refine PE.wk (pe_m1 PySem.F.slot_str_find PySem.F.type_str_find mt_find ho ha hs hbase hl) fun σ H Q ⟨m, S, ρ, r, e, cc⟩ => ?_
    refine ⟨m, S, ρ, r, e, (Cont.bind (RV := DV X.K) cc).imp fun v H1 ⟨x, m1, S1, G, r1, hv, c1⟩ => ?_⟩
    obtain ⟨z, rfl⟩ := isStr c1 (.inl rfl)
    cases hv with
    | str z hz =>
      refine ⟨⟨z, rfl⟩, m1, S1, ρ, r1, e.mono r G, (Cont.bind (RV := DV X.K) c1).imp fun u H2 ⟨y, m2, S2, G2, r2, hu, c2⟩ => ?_⟩
      cases hu with
      | str w hw =>
        have c2 : Cont X.K (DV X.K) (if w.length = 1 then .ok (.int (findC z (w.cps.getD 0 0))) S2 else .bad) m2 H2 Q := c2
        split at c2
        · rename_i hl1
          exact ⟨z, w, rfl, rfl, by
            rw [one_sign hl1, find_at]
            exact c2.done r2 (.int _)⟩
        · exact False.elim c2
      | _ => exact False.elim c2
  · refine PE.wk (pe_m1 PySem.F.slot_str_join PySem.F.type_str_join mt_join ho ha hs hbase hl) fun σ H Q ⟨m, S, ρ, r, e, cc⟩ => ?_
    refine ⟨m, S, ρ, r, e, (Cont.bind (RV := DV X.K) cc).imp fun v H1 ⟨x, m1, S1, G, r1, hv, c1⟩ => ?_⟩
    obtain ⟨z, rfl⟩ := isStr c1 (.inr rfl)
    cases hv with
    | str z hz =>
      refine ⟨⟨z, rfl⟩, m1, S1, ρ, r1, e.mono r G, (Cont.bind (RV := DV X.K) c1).imp fun u H2 ⟨y, m2, S2, G2, r2, hu, c2⟩ => ?_⟩
      have c2 : Cont X.K (DV X.K) ((lft ((lstItems y S2).bind strsOf) S2).bind fun zs S => if z.length = 0 ∧ (zs.map Str.length).sum ≤ sizeMax then .ok (.str (catS zs)) S else .bad) m2 H2 Q := c2
      cases hli : lstItems y S2 with
      | none => rw [hli] at c2; exact False.elim c2
      | some ys =>
        cases hso : strsOf ys with
        | none => rw [hli, Option.bind_some, hso] at c2; exact False.elim c2
        | some zs =>
          rw [hli, Option.bind_some, hso, lft_some, R.bind_ok] at c2
          split at c2
          · rename_i hz2
            obtain ⟨h0, hsum⟩ := hz2
            obtain ⟨p, vs, rfl, hvs, hq⟩ := lst_at r2 hu hli
            obtain ⟨rfl, hok⟩ := strsOf_vs hso hvs
            refine ⟨z, p, zs, rfl, rfl, .inl hq, by rw [h0, Nat.mul_zero, Nat.add_zero]; exact hsum, ?_⟩
            rw [join_at h0]
            refine c2.done r2 (.str _ ⟨?_, ?_⟩)
            · have : ∀ zs : List Str, (catS zs).length = (zs.map Str.length).sum := fun zs => by
                show ((zs.flatMap fun y => y.cps.toList).toArray).size = _
                rw [List.size_toArray, List.length_flatMap]
                rfl
              rw [this]
              exact hsum
            · unfold PyData.strOk
              rw [Array.all_eq_true']
              intro cc hcc
              have hcc : cc ∈ zs.flatMap fun y => y.cps.toList := by simpa [catS] using hcc
              obtain ⟨y, hy, hcy⟩ := List.mem_flatMap.mp hcc
              have := hok y hy
              unfold PyData.strOk at this
              rw [Array.all_eq_true'] at this
              exact this cc (Array.mem_toList_iff.mp hcy)
          · exact False.elim c2
theorem e_dict {pos : Pos} : PE X (.Dict [] [] pos) (tEv X.K fun _ S => alloc (.dic []) S) :=
  PE.wk pe_dnewK fun σ H Q ⟨m, S, ρ, r, e, cc⟩ => newDic r cc
/-- a display of texts by texts -/
def dispV (kvs : List (Str × Str)) : List (Key × V) := kvs.map fun p => (.inr p.1, V.str p.2)
theorem merge_new : ∀ (more acc : List (Key × V)), ((acc ++ more).map (·.1)).Nodup → mergeK acc more = acc ++ more
  | [], acc, _ => (List.append_nil acc).symm
  | p :: more, acc, h => by
    have hp : putK acc p.1 p.2 = acc ++ [p] := by
      unfold putK
      have : (acc.any fun kv => decide (kv.1 = p.1)) = false := by
        rw [List.any_eq_false]
        intro q hq
        rw [List.map_append, List.nodup_append] at h
        have := h.2.2 q.1 (List.mem_map.mpr ⟨q, hq, rfl⟩) p.1 (by simp)
        simpa using this
      rw [this]
      rfl
    show mergeK (putK acc p.1 p.2) more = _
    rw [hp, merge_new more (acc ++ [p]) (by rw [List.append_assoc]; exact h), List.append_assoc]
    rfl
theorem disp_pps : ∀ {keys : List (Option Expr)} {values : List Expr} {kvs : List (Str × Str)} {pos : Pos}, dispKV keys values = some kvs →
    ∃ trs : List (TE × TE), PPs X pos keys values trs ∧ keys.all (·.isSome) = true ∧ keys.length = values.length ∧ keys.length = kvs.length ∧ (∀ p ∈ kvs, strFit p.1 = true ∧ strFit p.2 = true) ∧
      ∀ (σ : Sg) (H : Hp) (F : List (V × V) → Hp → Prop), F ((dispV kvs).map fun kv => (kV kv.1, kv.2)) H → tPairs trs σ H F
  | [], [], kvs, pos, h => by
    cases h
    exact ⟨[], pps_nil, rfl, rfl, rfl, (fun p hp => by cases hp), fun σ H F h => h⟩
  | some k :: ks, v :: vs, kvs, pos, h => by
    unfold dispKV at h
    split at h
    · rename_i e1 e2
      cases e1
    · rename_i e1 e2
      injection e1 with e3 e4
      injection e3 with e3
      injection e2 with e5 e6
      subst e3 e4 e5 e6
      split at h
      · rename_i hf
        obtain ⟨r, hr, rfl⟩ := Option.map_eq_some_iff.mp h
        obtain ⟨trs, q1, q2, q3, q4, q5, q6⟩ := disp_pps (pos := pos) hr
        refine ⟨_, pps_cons pe_str pe_str q1, by rw [List.all_cons, q2]; rfl, by rw [List.length_cons, List.length_cons, q3], by rw [List.length_cons, List.length_cons, q4], fun p hp => ?_, fun σ H F hF => ?_⟩
        · rcases List.mem_cons.mp hp with rfl | hp
          · exact hf
          · exact q5 p hp
        · exact q6 σ H (fun ps H3 => F (_ :: ps) H3) hF
      · cases h
    · cases h
  | none :: ks, v :: vs, kvs, pos, h => by simp [dispKV] at h
  | [], _ :: _, kvs, pos, h => by simp [dispKV] at h
  | _ :: _, [], kvs, pos, h => by simp [dispKV] at h
theorem strFit_dv {K : PySem.W.Frag} {m : List Addr} {H : Hp} {z : Str} (h : strFit z = true) : DV K m H (.str z) (.str z) := by
  unfold strFit at h
  rw [Bool.and_eq_true, decide_eq_true_eq] at h
  exact .str z h
theorem disp_dks {K : PySem.W.Frag} {m : List Addr} {H : Hp} : ∀ {kvs : List (Str × Str)}, (∀ p ∈ kvs, strFit p.2 = true) → DKs K m H keyD (dispV kvs) (kvs.map fun p => (D.str p.1, D.str p.2))
  | [], _ => .nil
  | q :: kvs, h => .cons ⟨rfl, strFit_dv (h q List.mem_cons_self)⟩ (disp_dks fun p hp => h p (List.mem_cons_of_mem _ hp))
theorem e_disp {keys : List (Option Expr)} {values : List Expr} {kvs : List (Str × Str)} {pos : Pos} (h0 : keys ≠ []) (h : dispOf keys values = some kvs) : PE X (.Dict keys values pos) (tEv X.K fun _ S => alloc (.dic (kvs.map fun p => (.str p.1, .str p.2))) S) := by
  obtain ⟨kvs', h1, h2⟩ := Option.bind_eq_some_iff.mp h
  split at h2
  · rename_i hh
    cases h2
    obtain ⟨trs, q1, q2, q3, q4, q5, q6⟩ := disp_pps (X := X) (pos := pos) h1
    refine PE.wk (pe_disp q1 q2 q3 h0 (by rw [q4]; exact hh.1)) fun σ H Q ⟨m, S, ρ, r, e, cc⟩ p hp => ?_
    refine q6 σ _ _ ⟨upd_same, dispV kvs, rfl, ?_, ?_⟩
    · unfold dispV
      rw [List.length_map]
      exact hh.1
    · have em : mergeK [] (dispV kvs) = dispV kvs := by
        have := merge_new (dispV kvs) [] (by
          rw [List.nil_append]
          unfold dispV
          rw [List.map_map]
          have : ((fun kv : Key × V => kv.1) ∘ fun p : Str × Str => ((Sum.inr p.1 : Key), V.str p.2)) = (Sum.inr : Str → Key) ∘ fun p => p.1 := rfl
          rw [this, ← List.map_map]
          unfold List.Nodup
          rw [List.pairwise_map]
          exact List.Pairwise.imp (fun h e => h (Sum.inr.inj e)) hh.2)
        rwa [List.nil_append] at this
      have eu : upd (upd H p (.dK [])) p (.dK (mergeK [] (dispV kvs))) = upd H p (.dK (dispV kvs)) := by
        rw [em]
        funext b
        by_cases hb : b = p
        · subst hb; rw [upd_same, upd_same]
        · rw [upd_ne hb, upd_ne hb, upd_ne hb]
      rw [eu]
      have hd : DKs X.K (m ++ [p]) (upd H p (.dK (dispV kvs))) keyD (dispV kvs) (kvs.map fun p => (D.str p.1, D.str p.2)) := disp_dks fun p hp => (q5 p hp).2
      refine cc (m ++ [p]) _ (.ref p) (Gro.newL m _ hp) (r.newO hp trivial (.inl ⟨_, upd_same, hd⟩)) (.ref ?_)
      rw [List.getElem?_append_right (by rw [r.len]; exact Nat.le_refl _), r.len]
      simp
  · cases h2
/-! displays -/
theorem e_tup {es : List Expr} {j : Nat} {pos : Pos} {fs : Env → Sto → R (List D)} (ha : PA X es (tEs X.K fs)) (hl : ∀ ρ S vs S', fs ρ S = .ok vs S' → vs.length ≤ sizeLine) : PE X (.Tuple es j pos) (tEv X.K fun ρ S => (fs ρ S).bind fun vs S => .ok (.tup vs) S) :=
  PE.wk (pe_tup ha) fun σ H Q ⟨m, S, ρ, r, e, cc⟩ => by
    refine ⟨m, S, ρ, r, e, ?_⟩
    dsimp only at cc
    cases hr : fs ρ S with
    | ok vs S' =>
      have hll := hl _ _ _ _ hr
      rw [hr, R.bind_ok] at cc
      intro m1 H1 us G r1 hvs
      exact ⟨by rw [hvs.length]; exact hll, newTup r1 hvs (by rw [hvs.length]; exact hll) (cc.mono G)⟩
    | exc _ _ _ => rw [hr] at cc; exact False.elim cc
    | bad => rw [hr] at cc; exact False.elim cc
theorem e_lst {es : List Expr} {pos : Pos} {fs : Env → Sto → R (List D)} (ha : PA X es (tEs X.K fs)) (hl : ∀ ρ S vs S', fs ρ S = .ok vs S' → vs.length ≤ sizeLine) : PE X (.List es pos) (tEv X.K fun ρ S => (fs ρ S).bind fun vs S => alloc (.lst vs) S) :=
  PE.wk (pe_lst ha) fun σ H Q ⟨m, S, ρ, r, e, cc⟩ => by
    refine ⟨m, S, ρ, r, e, ?_⟩
    dsimp only at cc
    cases hr : fs ρ S with
    | ok vs S' =>
      have hll := hl _ _ _ _ hr
      rw [hr, R.bind_ok] at cc
      intro m1 H1 us G r1 hvs
      exact ⟨by rw [hvs.length]; exact hll, newLst r1 hvs (by rw [hvs.length]; exact hll) (cc.mono G)⟩
    | exc _ _ _ => rw [hr] at cc; exact False.elim cc
    | bad => rw [hr] at cc; exact False.elim cc
end
end PV

namespace PV
open PySem PySem.Spec PyProof.Rows L2
section
variable {X : Cx} {C : CS} {c : Ctx} {k n : Nat} {fnb : Str → Bool}
def Good (X : Cx) (c : Ctx) (e : Expr) (ir : E) : Prop := Both X e (sem c ir) ∧ ((sem c ir).it, (sem c ir).il) = ((fun ρ S => ((sem c ir).ev ρ S).bind fun x S => lft (srcS x S) S), fun ρ S => ((sem c ir).ev ρ S).bind fun x S => lft (srcD x S) S)
theorem Good.it {X : Cx} {c : Ctx} {e : Expr} {ir : E} (g : Good X c e ir) : (sem c ir).it = fun ρ S => ((sem c ir).ev ρ S).bind fun x S => lft (srcS x S) S := congrArg Prod.fst g.2
theorem Good.il {X : Cx} {c : Ctx} {e : Expr} {ir : E} (g : Good X c e ir) : (sem c ir).il = fun ρ S => ((sem c ir).ev ρ S).bind fun x S => lft (srcD x S) S := congrArg Prod.snd g.2
theorem goodArgs {f : Expr → Option E} (hf : f = cE n C X.env.scope X.N) (ih : ∀ e ir, f e = some ir → Good X c e ir) : ∀ {es : List Expr} {ir : E}, cL f es = some ir →
    PA X es (tEs X.K (sem c ir).es) ∧ (starEach es X.env).any (·.1) = false ∧ ∀ ρ S vs S', (sem c ir).es ρ S = .ok vs S' → vs.length = es.length
  | [], ir, h => by
    cases h
    exact ⟨a_nil, rfl, fun ρ S vs S' e => by cases e; rfl⟩
  | e :: es, ir, h => by
    obtain ⟨a, h1, h2⟩ := Option.bind_eq_some_iff.mp h
    obtain ⟨b, h3, rfl⟩ := Option.map_eq_some_iff.mp h2
    obtain ⟨q1, q2, q3⟩ := goodArgs hf ih h3
    have hs := noStar (by rw [← hf]; exact h1) es X.env
    refine ⟨a_cons (ih e a h1).1.1 q1 hs, by rw [hs]; exact q2, fun ρ S vs S' e => ?_⟩
    have e : (((sem c a).ev ρ S).bind fun x S => ((sem c b).es ρ S).bind fun xs S => .ok (x :: xs) S) = .ok vs S' := e
    cases r1 : (sem c a).ev ρ S with
    | ok x S1 =>
      rw [r1, R.bind_ok] at e
      cases r2 : (sem c b).es ρ S1 with
      | ok xs S2 =>
        rw [r2, R.bind_ok] at e
        cases e
        rw [List.length_cons, List.length_cons, q3 _ _ _ _ r2]
      | exc _ _ _ => rw [r2] at e; cases e
      | bad => rw [r2] at e; cases e
    | exc _ _ _ => rw [r1] at e; cases e
    | bad => rw [r1] at e; cases e
theorem goodAnd {f : Expr → Option E} {pos : Pos} (ih : ∀ e ir, f e = some ir → Good X c e ir) : ∀ {es : List Expr} {ir : E}, cBool .and f es = some ir →
    (PE X (.BoolOp .And es pos) (tEv X.K (sem c ir).ev) ∧ PW X (.BoolOp .And es pos) (tTe X.K (sem c ir).te)) ∧ ((sem c ir).it, (sem c ir).il) = ((fun ρ S => ((sem c ir).ev ρ S).bind fun x S => lft (srcS x S) S), fun ρ S => ((sem c ir).ev ρ S).bind fun x S => lft (srcD x S) S)
  | [], ir, h => by cases h
  | [e], ir, h => by
    have g := ih e ir h
    exact ⟨⟨pe_one g.1.1, pw_and1 g.1.2⟩, g.2⟩
  | e :: e2 :: es, ir, h => by
    obtain ⟨a, h1, h2⟩ := Option.bind_eq_some_iff.mp h
    obtain ⟨b, h3, rfl⟩ := Option.map_eq_some_iff.mp h2
    have g := ih e a h1
    have q := goodAnd (pos := pos) ih h3
    exact ⟨⟨e_and g.1.1 q.1.1, w_and g.1.2 q.1.2⟩, rfl⟩
theorem goodOr {f : Expr → Option E} {pos : Pos} (ih : ∀ e ir, f e = some ir → Good X c e ir) : ∀ {es : List Expr} {ir : E}, cBool .or f es = some ir →
    (PE X (.BoolOp .Or es pos) (tEv X.K (sem c ir).ev) ∧ PW X (.BoolOp .Or es pos) (tTe X.K (sem c ir).te)) ∧ ((sem c ir).it, (sem c ir).il) = ((fun ρ S => ((sem c ir).ev ρ S).bind fun x S => lft (srcS x S) S), fun ρ S => ((sem c ir).ev ρ S).bind fun x S => lft (srcD x S) S)
  | [], ir, h => by cases h
  | [e], ir, h => by
    have g := ih e ir h
    exact ⟨⟨pe_one g.1.1, pw_or1 g.1.2⟩, g.2⟩
  | e :: e2 :: es, ir, h => by
    obtain ⟨a, h1, h2⟩ := Option.bind_eq_some_iff.mp h
    obtain ⟨b, h3, rfl⟩ := Option.map_eq_some_iff.mp h2
    have g := ih e a h1
    have q := goodOr (pos := pos) ih h3
    exact ⟨⟨e_or g.1.1 q.1.1, w_or g.1.2 q.1.2⟩, rfl⟩
/-- a bound of a slice -/
theorem goodP {f : Expr → Option E} (ih : ∀ e ir, f e = some ir → Good X c e ir) {o : Option Expr} {ir : E} (h : cP f o = some ir) :
    PO X o fun σ H Q => ∃ m S ρ, Rl X.K m S H ∧ EnvR X.K m H σ ρ ∧ Cont X.K (fun _ _ (b a : Option Int) => b = a) (((sem c ir).es ρ S).bind fun l S => lft (partD l) S) m H Q := by
  cases o with
  | none =>
    cases h
    exact ⟨fun a b d e Q I ⟨m, S, ρ, r, en, cc⟩ => po_none.run a b d e Q I (Cont.done (a := none) (S := S) cc r rfl)⟩
  | some e =>
    obtain ⟨ia, h1, rfl⟩ := Option.map_eq_some_iff.mp h
    refine ⟨fun a b d e Q I ⟨m, S, ρ, r, en, cc⟩ => (po_some (ih _ _ h1).1.1).run a b d e Q I ?_⟩
    have cc : Cont X.K (fun _ _ (b a : Option Int) => b = a) ((((sem c ia).ev ρ S).bind fun x S => (R.ok [] S).bind fun xs S => .ok (x :: xs) S).bind fun l S => lft (partD l) S) m e Q := cc
    rw [R.bind_assoc] at cc
    refine ⟨m, S, ρ, r, en, (Cont.bind (RV := DV X.K) cc).imp fun v H1 ⟨x, m1, S1, G, r1, hv, c1⟩ => ?_⟩
    rw [R.bind_ok, R.bind_ok] at c1
    cases hv with
    | int i => exact ⟨i, rfl, Cont.done (a := some i) (S := S1) c1 r1 rfl⟩
    | _ => exact False.elim c1
theorem e_slice {f : Expr → Option E} (ih : ∀ e ir, f e = some ir → Good X c e ir) {e : Expr} {lo hi : Option Expr} {pos p2 : Pos} {ia il ih' : E} (h1 : f e = some ia) (h2 : cP f lo = some il) (h3 : cP f hi = some ih') :
    PE X (.Subscript e (.Slice lo hi none p2) pos) (tEv X.K (sem c (.slice ia il ih')).ev) := by
  refine PE.wk (pe_slice sl_any (ih _ _ h1).1.1 (goodP ih h2) (goodP ih h3)) fun σ H Q ⟨m, S, ρ, r, en, cc⟩ => ?_
  refine ⟨m, S, ρ, r, en, (Cont.bind (RV := DV X.K) cc).imp fun v H1 ⟨x, m1, S1, G1, r1, hv, c1⟩ => ?_⟩
  refine ⟨m1, S1, ρ, r1, en.mono r G1, (Cont.bind (RV := fun _ _ (b a : Option Int) => b = a) c1).imp fun l H2 ⟨l', m2, S2, G2, r2, hl, c2⟩ => ?_⟩
  cases hl
  refine ⟨m2, S2, ρ, r2, (en.mono r G1).mono r1 G2, (Cont.bind (RV := fun _ _ (b a : Option Int) => b = a) c2).imp fun h H3 ⟨h', m3, S3, G3, r3, hh, c3⟩ => ?_⟩
  cases hh
  exact ⟨m3, S3, x, r3, (hv.mono r1 G2).mono r2 G3, c3⟩
theorem star1_of {e : Expr} {ir : E} (h : cE n C X.env.scope X.N e = some ir) : starEach [e] X.env = [(false, PySem.eval e X.env)] := noStar h [] X.env
theorem goodI {w z : Bool} {tg : Expr} (gd : Gd C c k fnb X) (hz : z = true → isTuple tg = true) (ih : ∀ e ir, cE n C X.env.scope X.N e = some ir → Good X c e ir) {e : Expr} {ir : E} (h : cI w z X.env.scope (cE n C X.env.scope X.N) e = some ir) :
    PI X tg e (tIt X.K (sem c ir).it) := by
  have plainI : ∀ e ir, cE n C X.env.scope X.N e = some ir → PI X tg e (tIt X.K (sem c ir).it) := fun e ir h => by
    have g := ih e ir h
    rw [g.it]
    exact pi_val g.1.1
  unfold cI at h
  split at h
  · rename_i x p args pos
    split at h
    · rename_i hx
      simp only [Bool.and_eq_true, decide_eq_true_eq] at hx
      obtain ⟨hg, rfl⟩ := hx
      split at h
      · rename_i a
        obtain ⟨ia, h1, rfl⟩ := Option.map_eq_some_iff.mp h
        exact pi_rng1 (gl_of hg) (gd.blt _ (by decide +kernel)) (ih _ _ h1).1.1 (star1_of h1)
      · rename_i a b
        obtain ⟨ia, h1, h2⟩ := Option.bind_eq_some_iff.mp h
        obtain ⟨ib, h3, rfl⟩ := Option.map_eq_some_iff.mp h2
        exact pi_rng2 (gl_of hg) (gd.blt _ (by decide +kernel)) (ih _ _ h1).1.1 (ih _ _ h3).1.1 (noStar h1 _ _) (star1_of h3)
      · rename_i a b k9 p9 p8
        by_cases hw : w = true
        · rw [if_pos hw] at h
          obtain ⟨ia, h1, h2⟩ := Option.bind_eq_some_iff.mp h
          obtain ⟨ib, h3, rfl⟩ := Option.map_eq_some_iff.mp h2
          exact pi_rngDn (gl_of hg) (gd.blt _ (by decide +kernel)) (ih _ _ h1).1.1 (ih _ _ h3).1.1 (e_neg (PE.wk pe_int fun σ H Q h => tEv.ret h fun _ _ => .int 1)) (noStar h1 _ _) (noStar h3 _ _) rfl
        · rw [if_neg hw] at h; cases h
      · cases h
    · split at h
      · rename_i hx
        simp only [Bool.and_eq_true, decide_eq_true_eq] at hx
        obtain ⟨⟨hzz, hg⟩, rfl⟩ := hx
        have ht := hz hzz
        split at h
        · rename_i a b
          obtain ⟨ia, h1, h2⟩ := Option.bind_eq_some_iff.mp h
          obtain ⟨ib, h3, rfl⟩ := Option.map_eq_some_iff.mp h2
          cases tg with
          | Tuple elts kk tpos => exact pi_zp (gl_of hg) (gd.blt _ (by decide +kernel)) (ih _ _ h1).1.1 (ih _ _ h3).1.1 (noStar h1 _ _) (star1_of h3)
          | _ => cases ht
        · cases h
      · exact plainI _ _ h
  · exact plainI _ _ h
end
end PV

namespace PV
open PySem PySem.Spec PyProof.Rows L2
section
variable {X : Cx} {C : CS} {c : Ctx} {k n : Nat} {fnb : Str → Bool}
theorem goodName {x : Str} {pos : Pos} {ir : E} (gd : Gd C c k fnb X) (h : cE (n + 1) C X.env.scope X.N (.Name x pos) = some ir) : Good X c (.Name x pos) ir := by
  simp only [cE] at h
  split at h
  · rename_i ok
    split at h
    · rename_i hv
      obtain ⟨i, h1, rfl⟩ := Option.map_eq_some_iff.mp h
      exact ⟨both_of (e_var (c := c) ok hv (ixOf_get h1)) fun _ => rfl, rfl⟩
    · split at h
      · rename_i hg
        obtain ⟨i, h1, rfl⟩ := Option.map_eq_some_iff.mp h
        obtain ⟨u, v, d, hm, r, hd, hv⟩ := gd.consts i x (ixOf_get h1)
        obtain ⟨a1, _, _⟩ := ok_name ok
        refine ⟨both_of (PE.wk (pe_glob (gl_of hg) hm r a1) fun σ H Q h => ?_) fun _ => rfl, rfl⟩
        rw [hd] at h
        exact tEv.ret (d := d) h hv
      · cases h
  · cases h
theorem goodConst {cst : Const} {kd : Nat} {pos : Pos} {ir : E} (h : cE (n + 1) C X.env.scope X.N (.Constant cst kd pos) = some ir) : Good X c (.Constant cst kd pos) ir := by
  cases cst with
  | int i => cases h; exact ⟨both_of (PE.wk pe_int fun σ H Q h => tEv.ret h fun _ _ => .int i) fun _ => rfl, rfl⟩
  | bool b => cases h; exact ⟨both_of (PE.wk pe_bl fun σ H Q h => tEv.ret h fun _ _ => .bl b) fun _ => rfl, rfl⟩
  | none => cases h; exact ⟨both_of (PE.wk pe_non fun σ H Q h => tEv.ret h fun _ _ => .non) fun _ => rfl, rfl⟩
  | str s =>
    simp only [cE] at h
    split at h
    · rename_i hs
      cases h
      unfold strFit at hs
      simp only [Bool.and_eq_true, decide_eq_true_eq] at hs
      exact ⟨both_of (PE.wk pe_str fun σ H Q h => tEv.ret h fun _ _ => .str s hs) fun _ => rfl, rfl⟩
    · cases h
  | _ => simp [cE] at h
theorem goodCmp {a : Expr} {ops : List CmpOp} {bs : List Expr} {pos : Pos} {ir : E} (gd : Gd C c k fnb X) (I : ∀ e ir, cE n C X.env.scope X.N e = some ir → Good X c e ir) (h : cE (n + 1) C X.env.scope X.N (.Compare a ops bs pos) = some ir) : Good X c (.Compare a ops bs pos) ir := by
  simp only [cE] at h
  split at h
  · rename_i op b
    split at h
    · cases h
    · rename_i hb
      have hb : isSet b = false := by simpa using hb
      split at h
      · split at h
        · rename_i hn
          obtain ⟨ia, h1, rfl⟩ := Option.map_eq_some_iff.mp h
          have : ∃ j p, b = .Constant .none j p := by
            unfold isNone at hn
            split at hn
            · exact ⟨_, _, rfl⟩
            · cases hn
          obtain ⟨j, p, rfl⟩ := this
          exact ⟨both_isN (I _ _ h1).1.1, rfl⟩
        · cases h
      · split at h
        · rename_i hn
          obtain ⟨ia, h1, rfl⟩ := Option.map_eq_some_iff.mp h
          have : ∃ j p, b = .Constant .none j p := by
            unfold isNone at hn
            split at hn
            · exact ⟨_, _, rfl⟩
            · cases hn
          obtain ⟨j, p, rfl⟩ := this
          exact ⟨both_notN (I _ _ h1).1.1, rfl⟩
        · cases h
      · obtain ⟨o, h0, h⟩ := Option.bind_eq_some_iff.mp h
        obtain ⟨ia, h1, h2⟩ := Option.bind_eq_some_iff.mp h
        obtain ⟨ib, h3, rfl⟩ := Option.map_eq_some_iff.mp h2
        exact ⟨both_cmp (o_cmp gd.kd h0 gd.hu) (fun x y S d S' e => cmpR_bl e) (I _ _ h1).1.1 (I _ _ h3).1.1 (noMark _ hb), rfl⟩
  · rename_i o1 o2 b d
    split at h
    · cases h
    · rename_i hb
      have hb : isSet d = false := by simpa using hb
      obtain ⟨p, h0, h⟩ := Option.bind_eq_some_iff.mp h
      obtain ⟨q, h0', h⟩ := Option.bind_eq_some_iff.mp h
      obtain ⟨ia, h1, h⟩ := Option.bind_eq_some_iff.mp h
      obtain ⟨ib, h2, h⟩ := Option.bind_eq_some_iff.mp h
      obtain ⟨ic, h3, rfl⟩ := Option.map_eq_some_iff.mp h
      exact ⟨both_chain (o_cmp gd.kd h0 gd.hu) (o_cmp gd.kd h0' gd.hu) (I _ _ h1).1.1 (I _ _ h2).1.1 (I _ _ h3).1.1 (noMark2 _ _ hb), rfl⟩
  · cases h
theorem goodCall {f : Str} {p pos : Pos} {args : List Expr} {ir : E} (gd : Gd C c k fnb X) (I : ∀ e ir, cE n C X.env.scope X.N e = some ir → Good X c e ir) (h : cE (n + 1) C X.env.scope X.N (.Call (.Name f p) args [] pos) = some ir) : Good X c (.Call (.Name f p) args [] pos) ir := by
  simp only [cE] at h
  split at h
  · rename_i hok
    obtain ⟨hx, hg⟩ := hok
    split at h
    · rename_i e hsa
      obtain ⟨ia, h1, rfl⟩ := Option.map_eq_some_iff.mp h
      unfold setArg at hsa
      split at hsa
      · split at hsa
        · rename_i hh
          cases hsa
          obtain ⟨rfl, rfl, hg2⟩ := hh
          exact ⟨both_of (e_sset gd hg hg2 (I _ _ h1).1.1 (star1_of h1)) fun _ => rfl, rfl⟩
        · cases hsa
      · cases hsa
    rename_i hno
    clear hno
    split at h
    · rename_i e hsa
      obtain ⟨ia, h1, rfl⟩ := Option.map_eq_some_iff.mp h
      unfold revArg at hsa
      split at hsa
      · split at hsa
        · rename_i hh
          cases hsa
          obtain ⟨rfl, rfl, hg2⟩ := hh
          exact ⟨both_of (e_revT gd hg hg2 (I _ _ h1).1.1 (star1_of h1)) fun _ => rfl, rfl⟩
        · cases hsa
      · cases hsa
    rename_i hno
    clear hno
    split at h
    · rename_i i hi
      obtain ⟨ia, h1, rfl⟩ := Option.map_eq_some_iff.mp h
      have hi := ixOf_get hi
      obtain ⟨q1, q2, q3⟩ := goodArgs rfl I h1
      cases args with
      | nil => cases h1; exact ⟨both_of (e_call0 gd hi hx hg) fun _ => rfl, rfl⟩
      | cons e es =>
        obtain ⟨a, h2, h3⟩ := Option.bind_eq_some_iff.mp h1
        have hs := noStar h2 es X.env
        rw [hs] at q2
        exact ⟨both_of (e_call1 gd hi hx hg q1 hs q2) fun _ => rfl, rfl⟩
    · split at h
      · rename_i b x hb
        obtain ⟨ia, h1, rfl⟩ := Option.map_eq_some_iff.mp h
        obtain ⟨id, hc, hv, hm⟩ := bi_rule gd.calm gd.hu70 hb
        have hs := star1_of h1
        exact ⟨both_of (e_bi hc hv (gd.blt _ hm) hx hg (a_cons (I _ _ h1).1.1 a_nil hs) hs rfl) fun _ => rfl, rfl⟩
      · rename_i b x y hb
        obtain ⟨ia, h1, h2⟩ := Option.bind_eq_some_iff.mp h
        obtain ⟨ib, h3, rfl⟩ := Option.map_eq_some_iff.mp h2
        obtain ⟨id, hc, hv, hm⟩ := bi_rule gd.calm gd.hu70 hb
        have hs := noStar h1 [y] X.env
        have hs2 := star1_of h3
        exact ⟨both_of (e_bi hc hv (gd.blt _ hm) hx hg (a_cons (I _ _ h1).1.1 (a_cons (I _ _ h3).1.1 a_nil hs2) hs) hs (by rw [hs2]; rfl)) fun _ => rfl, rfl⟩
      · rename_i b x y z hb
        obtain ⟨ia, h1, h2⟩ := Option.bind_eq_some_iff.mp h
        obtain ⟨ib, h3, h4⟩ := Option.bind_eq_some_iff.mp h2
        obtain ⟨ic, h5, rfl⟩ := Option.map_eq_some_iff.mp h4
        obtain ⟨id, hc, hv, hm⟩ := bi_rule gd.calm gd.hu70 hb
        have hs := noStar h1 [y, z] X.env
        have hs2 := noStar h3 [z] X.env
        have hs3 := star1_of h5
        exact ⟨both_of (e_bi hc hv (gd.blt _ hm) hx hg (a_cons (I _ _ h1).1.1 (a_cons (I _ _ h3).1.1 (a_cons (I _ _ h5).1.1 a_nil hs3) hs2) hs) hs (by rw [hs2, hs3]; rfl)) fun _ => rfl, rfl⟩
      · rename_i x hb
        split at h
        · rename_i hf
          subst hf
          obtain ⟨ia, h1, rfl⟩ := Option.map_eq_some_iff.mp h
          have hs := star1_of h1
          exact ⟨both_of (e_ty c_int (by decide +kernel) (gd.blt _ (by decide +kernel)) hx hg (a_cons (I _ _ h1).1.1 a_nil hs) hs rfl) fun _ => rfl, rfl⟩
        · split at h
          · rename_i hf
            subst hf
            obtain ⟨ia, h1, rfl⟩ := Option.map_eq_some_iff.mp h
            unfold cI at h1
            split at h1
            · split at h1
              · rename_i hx2
                simp only [Bool.and_eq_true, decide_eq_true_eq] at hx2
                obtain ⟨hg2, rfl⟩ := hx2
                split at h1
                · obtain ⟨iz, h3, rfl⟩ := Option.map_eq_some_iff.mp h1
                  exact ⟨both_of (e_list1 gd hg hg2 (I _ _ h3).1.1 (star1_of h3)) fun _ => rfl, rfl⟩
                · obtain ⟨iz, h3, h4⟩ := Option.bind_eq_some_iff.mp h1
                  obtain ⟨iw, h5, rfl⟩ := Option.map_eq_some_iff.mp h4
                  exact ⟨both_of (e_list2 gd hg hg2 (I _ _ h3).1.1 (I _ _ h5).1.1 (noStar h3 _ _) (star1_of h5)) fun _ => rfl, rfl⟩
                · rw [if_neg (by decide)] at h1; cases h1
                · cases h1
              · split at h1
                · rename_i hx2
                  simp at hx2
                · have g := I _ _ h1
                  refine ⟨both_of ?_ fun _ => rfl, rfl⟩
                  show PE X _ (tEv X.K fun ρ S => ((sem c ia).it ρ S).bind fun s S => alloc (.lst s.items) S)
                  rw [g.it]
                  exact e_listOf (pos := pos) (p := p) gd hg g.1.1 (star1_of h1)
            · have g := I _ _ h1
              refine ⟨both_of ?_ fun _ => rfl, rfl⟩
              show PE X _ (tEv X.K fun ρ S => ((sem c ia).it ρ S).bind fun s S => alloc (.lst s.items) S)
              rw [g.it]
              exact e_listOf (pos := pos) (p := p) gd hg g.1.1 (star1_of h1)
          · split at h
            · rename_i hf
              subst hf
              obtain ⟨ia, h1, rfl⟩ := Option.map_eq_some_iff.mp h
              unfold cI at h1
              split at h1
              · split at h1
                · rename_i hx2
                  simp only [Bool.and_eq_true, decide_eq_true_eq] at hx2
                  obtain ⟨hg2, rfl⟩ := hx2
                  split at h1
                  · obtain ⟨iz, h3, rfl⟩ := Option.map_eq_some_iff.mp h1
                    exact ⟨both_of (e_tup1 gd hg hg2 (I _ _ h3).1.1 (star1_of h3)) fun _ => rfl, rfl⟩
                  · obtain ⟨iz, h3, h4⟩ := Option.bind_eq_some_iff.mp h1
                    obtain ⟨iw, h5, rfl⟩ := Option.map_eq_some_iff.mp h4
                    exact ⟨both_of (e_tup2 gd hg hg2 (I _ _ h3).1.1 (I _ _ h5).1.1 (noStar h3 _ _) (star1_of h5)) fun _ => rfl, rfl⟩
                  · rw [if_neg (by decide)] at h1; cases h1
                  · cases h1
                · split at h1
                  · rename_i hx2
                    simp at hx2
                  · have g := I _ _ h1
                    refine ⟨both_of ?_ fun _ => rfl, rfl⟩
                    show PE X _ (tEv X.K fun ρ S => ((sem c ia).il ρ S).bind fun s S => .ok (.tup s.items) S)
                    rw [g.il]
                    exact e_tupOf (pos := pos) (p := p) gd hg g.1.1 (star1_of h1)
              · have g := I _ _ h1
                refine ⟨both_of ?_ fun _ => rfl, rfl⟩
                show PE X _ (tEv X.K fun ρ S => ((sem c ia).il ρ S).bind fun s S => .ok (.tup s.items) S)
                rw [g.il]
                exact e_tupOf (pos := pos) (p := p) gd hg g.1.1 (star1_of h1)
            · cases h
      · rename_i x t q hb
        split at h
        · rename_i hh
          obtain ⟨rfl, hgt, hxt⟩ := hh
          obtain ⟨ty, h1, h2⟩ := Option.bind_eq_some_iff.mp h
          obtain ⟨ia, h3, rfl⟩ := Option.map_eq_some_iff.mp h2
          exact ⟨both_of (e_isi gd hg hgt hxt h1 (I _ _ h3).1.1 (noStar h3 _ _)) fun _ => rfl, rfl⟩
        · cases h
      · cases h
  · cases h
theorem comp_parts {elt : Expr} {gs : List Comprehension} {scope : Scope} {pos : Pos} {ir : E} (hone : gs.length = 1) (gd : Gd C c k fnb X) (I : ∀ {k : Nat} {fnb : Str → Bool} {X : Cx} {e : Expr} {ir : E}, Gd C c k fnb X → cE n C X.env.scope X.N e = some ir → Good X c e ir) (h : cE (n + 1) C X.env.scope X.N (.ListComp elt gs scope pos) = some ir) : ∃ tg it ifs wi g tt te own, gs = [⟨tg, it, ifs, 0⟩] ∧ PI X tg it wi ∧ BlkOk X.N X.env.scope scope own ∧ (∀ (s : Shared) (H : Hp) (C : Addr) (cl : List (Str × Addr)) (fp : List Addr), PG (X.blk s H scope (compEnvC scope cl C X.env) fp) tg g) ∧
      (∀ (s : Shared) (H : Hp) (C : Addr) (cl : List (Str × Addr)) (fp : List Addr), PTs (X.blk s H scope (compEnvC scope cl C X.env) fp) ifs tt) ∧ (∀ (s : Shared) (H : Hp) (C : Addr) (cl : List (Str × Addr)) (fp : List Addr), PE (X.blk s H scope (compEnvC scope cl C X.env) fp) elt te) ∧
      (∀ x, foldedSetIterable it X.env x = pure x) ∧ (∀ σ H Q, tEv X.K (sem c ir).ev σ H Q → tLc wi g tt te (own.map (·.2)) σ H Q) ∧ ∃ f, sem c ir = Mean.of f := by
  match gs, h with
  | [], h => cases hone
  | _ :: _ :: _, h => simp at hone
  | [⟨tg, it, ifs, ia⟩], h =>
    simp only [cE] at h
    split at h
    · rename_i hb
      obtain ⟨rfl, hblk, hset⟩ := hb
      obtain ⟨ii, h1, h⟩ := Option.bind_eq_some_iff.mp h
      obtain ⟨t, h2, h⟩ := Option.bind_eq_some_iff.mp h
      split at h
      · rename_i ht
        have hi := goodI (tg := tg) gd id (fun e ir h => I gd h) h1
        have hg : ∀ (s : Shared) (H : Hp) (C : Addr) (cl : List (Str × Addr)) (fp : List Addr), PG (X.blk s H scope (compEnvC scope cl C X.env) fp) tg (tTg X.K t) := fun s H A cl fp =>
          pg_tg (X := X.blk s H scope (compEnvC scope cl A X.env) fp) (fnb := fun x => scope.names.lookup x == some .cell) gd.nd gd.calm (fun _ => rfl) h2
        match ifs, h with
        | [], h =>
          obtain ⟨ie, h3, rfl⟩ := Option.map_eq_some_iff.mp h
          have hE : ∀ (s : Shared) (H : Hp) (C : Addr) (cl : List (Str × Addr)) (fp : List Addr), PE (X.blk s H scope (compEnvC scope cl C X.env) fp) elt (tEv X.K (sem c ie).ev) := fun s H A cl fp =>
            (I (X := X.blk s H scope (compEnvC scope cl A X.env) fp) (gd.blk s H scope A cl fp) h3).1.1
          have hT : ∀ (s : Shared) (H : Hp) (C : Addr) (cl : List (Str × Addr)) (fp : List Addr), PTs (X.blk s H scope (compEnvC scope cl C X.env) fp) [] (tTe X.K (sem c .nil).te) := fun s H A cl fp =>
            ⟨fun a b c d Q I r => pts_nil.run a b c d Q I (let ⟨m, S, ρ, r1, e, cc⟩ := r; Cont.done (a := true) (S := S) cc r1 rfl)⟩
          exact ⟨tg, it, [], _, _, _, _, _, rfl, hi, blkOk_by hblk, hg, hT, hE, foldedNone hset X.env, fun σ H Q h => by rw [← ht]; exact lc_of h, _, rfl⟩
        | [kk], h =>
          obtain ⟨ik, h4, h⟩ := Option.bind_eq_some_iff.mp h
          obtain ⟨ie, h3, rfl⟩ := Option.map_eq_some_iff.mp h
          have hE : ∀ (s : Shared) (H : Hp) (C : Addr) (cl : List (Str × Addr)) (fp : List Addr), PE (X.blk s H scope (compEnvC scope cl C X.env) fp) elt (tEv X.K (sem c ie).ev) := fun s H A cl fp =>
            (I (X := X.blk s H scope (compEnvC scope cl A X.env) fp) (gd.blk s H scope A cl fp) h3).1.1
          have hT : ∀ (s : Shared) (H : Hp) (C : Addr) (cl : List (Str × Addr)) (fp : List Addr), PTs (X.blk s H scope (compEnvC scope cl C X.env) fp) [kk] (tTe X.K (sem c ik).te) := fun s H A cl fp =>
            pts_one (I (X := X.blk s H scope (compEnvC scope cl A X.env) fp) (gd.blk s H scope A cl fp) h4).1.2
          exact ⟨tg, it, [kk], _, _, _, _, _, rfl, hi, blkOk_by hblk, hg, hT, hE, foldedNone hset X.env, fun σ H Q h => by rw [← ht]; exact lc_of h, _, rfl⟩
        | _ :: _ :: _, h => cases h
      · cases h
    · cases h
theorem comp2_parts {elt : Expr} {gs : List Comprehension} {scope : Scope} {pos : Pos} {ir : E} (hone : gs.length ≠ 1) (gd : Gd C c k fnb X) (I : ∀ {k : Nat} {fnb : Str → Bool} {X : Cx} {e : Expr} {ir : E}, Gd C c k fnb X → cE n C X.env.scope X.N e = some ir → Good X c e ir) (h : cE (n + 1) C X.env.scope X.N (.ListComp elt gs scope pos) = some ir) :
    ∃ tg it tg1 it1 ifs1 wi g tt wi1 g1 tt1 te own vs1, gs = [⟨tg, it, [], 0⟩, ⟨tg1, it1, ifs1, 0⟩] ∧ PI X tg it wi ∧ BlkOk X.N X.env.scope scope own ∧ (∀ i ∈ vs1, i ∈ own.map (·.2)) ∧
      (∀ (s : Shared) (H : Hp) (C : Addr) (cl : List (Str × Addr)) (fp : List Addr), PG (X.blk s H scope (compEnvC scope cl C X.env) fp) tg g) ∧
      (∀ (s : Shared) (H : Hp) (C : Addr) (cl : List (Str × Addr)) (fp : List Addr), PTs (X.blk s H scope (compEnvC scope cl C X.env) fp) [] tt) ∧
      (∀ (s : Shared) (H : Hp) (C : Addr) (cl : List (Str × Addr)) (fp : List Addr), PI (X.blk s H scope (compEnvC scope cl C X.env) fp) tg1 it1 wi1) ∧
      (∀ (s : Shared) (H : Hp) (C : Addr) (cl : List (Str × Addr)) (fp : List Addr), PG (X.blk s H scope (compEnvC scope cl C X.env) fp) tg1 g1) ∧
      (∀ (s : Shared) (H : Hp) (C : Addr) (cl : List (Str × Addr)) (fp : List Addr), PTs (X.blk s H scope (compEnvC scope cl C X.env) fp) ifs1 tt1) ∧ (∀ (s : Shared) (H : Hp) (C : Addr) (cl : List (Str × Addr)) (fp : List Addr), PE (X.blk s H scope (compEnvC scope cl C X.env) fp) elt te) ∧
      (∀ x, foldedSetIterable it X.env x = pure x) ∧ (∀ env x, foldedSetIterable it1 env x = pure x) ∧ (∀ σ H Q, tEv X.K (sem c ir).ev σ H Q → tLc2 wi g tt wi1 g1 tt1 te (own.map (·.2)) vs1 σ H Q) ∧ ∃ f, sem c ir = Mean.of f := by
  match gs, h with
  | [], h => simp [cE] at h
  | [_], h => exact absurd rfl hone
  | _ :: _ :: _ :: _, h => simp [cE] at h
  | [⟨_, _, _ :: _, _⟩, _], h => simp [cE] at h
  | [⟨tg, it, [], ia⟩, ⟨tg1, it1, ifs1, ia1⟩], h =>
    simp only [cE] at h
    split at h
    · rename_i hb
      obtain ⟨⟨rfl, rfl⟩, hblk, hset, hset1⟩ := hb
      obtain ⟨ii, h1, h⟩ := Option.bind_eq_some_iff.mp h
      obtain ⟨t, h2, h⟩ := Option.bind_eq_some_iff.mp h
      obtain ⟨i2, h5, h⟩ := Option.bind_eq_some_iff.mp h
      obtain ⟨t2, h6, h⟩ := Option.bind_eq_some_iff.mp h
      split at h
      · rename_i ht
        obtain ⟨ht, ht2⟩ := ht
        have hi := goodI (tg := tg) gd id (fun e ir h => I gd h) h1
        have hg : ∀ (s : Shared) (H : Hp) (C : Addr) (cl : List (Str × Addr)) (fp : List Addr), PG (X.blk s H scope (compEnvC scope cl C X.env) fp) tg (tTg X.K t) := fun s H A cl fp =>
          pg_tg (X := X.blk s H scope (compEnvC scope cl A X.env) fp) (fnb := fun x => scope.names.lookup x == some .cell) gd.nd gd.calm (fun _ => rfl) h2
        have hg1 : ∀ (s : Shared) (H : Hp) (C : Addr) (cl : List (Str × Addr)) (fp : List Addr), PG (X.blk s H scope (compEnvC scope cl C X.env) fp) tg1 (tTg X.K t2) := fun s H A cl fp =>
          pg_tg (X := X.blk s H scope (compEnvC scope cl A X.env) fp) (fnb := fun x => scope.names.lookup x == some .cell) gd.nd gd.calm (fun _ => rfl) h6
        have hi1 : ∀ (s : Shared) (H : Hp) (C : Addr) (cl : List (Str × Addr)) (fp : List Addr), PI (X.blk s H scope (compEnvC scope cl C X.env) fp) tg1 it1 (tIt X.K (sem c i2).it) := fun s H A cl fp =>
          goodI (X := X.blk s H scope (compEnvC scope cl A X.env) fp) (tg := tg1) (gd.blk s H scope A cl fp) id (fun e ir h => I (gd.blk s H scope A cl fp) h) h5
        have hT0 : ∀ (s : Shared) (H : Hp) (C : Addr) (cl : List (Str × Addr)) (fp : List Addr), PTs (X.blk s H scope (compEnvC scope cl C X.env) fp) [] (tTe X.K fun _ S => .ok true S) := fun s H A cl fp =>
          ⟨fun a b c d Q I r => pts_nil.run a b c d Q I (let ⟨m, S, ρ, r1, e, cc⟩ := r; Cont.done (a := true) (S := S) cc r1 rfl)⟩
        have hv : ∀ i ∈ t2, i ∈ (ownOf X.N tg ++ ownOf X.N tg1).map (·.2) := fun i hi => by
          rw [List.map_append, ← ht2]
          exact List.mem_append_right _ hi
        have hown : (ownOf X.N tg ++ ownOf X.N tg1).map (·.2) = t ++ t2 := by rw [List.map_append, ← ht, ← ht2]
        match ifs1, h with
        | [], h =>
          obtain ⟨ie, h3, rfl⟩ := Option.map_eq_some_iff.mp h
          have hE : ∀ (s : Shared) (H : Hp) (C : Addr) (cl : List (Str × Addr)) (fp : List Addr), PE (X.blk s H scope (compEnvC scope cl C X.env) fp) elt (tEv X.K (sem c ie).ev) := fun s H A cl fp =>
            (I (X := X.blk s H scope (compEnvC scope cl A X.env) fp) (gd.blk s H scope A cl fp) h3).1.1
          have hT : ∀ (s : Shared) (H : Hp) (C : Addr) (cl : List (Str × Addr)) (fp : List Addr), PTs (X.blk s H scope (compEnvC scope cl C X.env) fp) [] (tTe X.K (sem c .nil).te) := hT0
          exact ⟨tg, it, tg1, it1, [], _, _, _, _, _, _, _, _, _, rfl, hi, blkOk_by hblk, hv, hg, hT0, hi1, hg1, hT, hE, foldedNone hset X.env, fun env => foldedNone hset1 env, fun σ H Q h => by rw [hown]; exact lc2_of h, _, rfl⟩
        | [kk], h =>
          obtain ⟨ik, h4, h⟩ := Option.bind_eq_some_iff.mp h
          obtain ⟨ie, h3, rfl⟩ := Option.map_eq_some_iff.mp h
          have hE : ∀ (s : Shared) (H : Hp) (C : Addr) (cl : List (Str × Addr)) (fp : List Addr), PE (X.blk s H scope (compEnvC scope cl C X.env) fp) elt (tEv X.K (sem c ie).ev) := fun s H A cl fp =>
            (I (X := X.blk s H scope (compEnvC scope cl A X.env) fp) (gd.blk s H scope A cl fp) h3).1.1
          have hT : ∀ (s : Shared) (H : Hp) (C : Addr) (cl : List (Str × Addr)) (fp : List Addr), PTs (X.blk s H scope (compEnvC scope cl C X.env) fp) [kk] (tTe X.K (sem c ik).te) := fun s H A cl fp =>
            pts_one (I (X := X.blk s H scope (compEnvC scope cl A X.env) fp) (gd.blk s H scope A cl fp) h4).1.2
          exact ⟨tg, it, tg1, it1, [kk], _, _, _, _, _, _, _, _, _, rfl, hi, blkOk_by hblk, hv, hg, hT0, hi1, hg1, hT, hE, foldedNone hset X.env, fun env => foldedNone hset1 env, fun σ H Q h => by rw [hown]; exact lc2_of h, _, rfl⟩
        | _ :: _ :: _, h => cases h
      · cases h
    · cases h
theorem goodComp {elt : Expr} {gs : List Comprehension} {scope : Scope} {pos : Pos} {ir : E} (gd : Gd C c k fnb X) (I : ∀ {k : Nat} {fnb : Str → Bool} {X : Cx} {e : Expr} {ir : E}, Gd C c k fnb X → cE n C X.env.scope X.N e = some ir → Good X c e ir) (h : cE (n + 1) C X.env.scope X.N (.ListComp elt gs scope pos) = some ir) : Good X c (.ListComp elt gs scope pos) ir := by
  by_cases hone : gs.length = 1
  · obtain ⟨tg, it, ifs, wi, g, tt, te, own, rfl, q1, q2, q3, q4, q5, q6, q7, f, hf⟩ := comp_parts hone gd I h
    have key := PE.wk (pe_lc (pos := pos) gd.calm gd.nd q1 q2 q3 q4 q5 q6) q7
    rw [hf] at key
    unfold Good
    rw [hf]
    exact ⟨both_of key fun _ => rfl, rfl⟩
  · obtain ⟨tg, it, tg1, it1, ifs1, wi, g, tt, wi1, g1, tt1, te, own, vs1, rfl, q1, q2, qv, q3, q4, q8, q9, q10, q5, q6, q11, q7, f, hf⟩ := comp2_parts hone gd I h
    have key := PE.wk (pe_lc2 (pos := pos) gd.calm gd.nd q1 q2 qv q3 q4 q8 q9 q10 q5 q6 q11) q7
    rw [hf] at key
    unfold Good
    rw [hf]
    exact ⟨both_of key fun _ => rfl, rfl⟩
end
end PV

namespace PV
open PySem PySem.Spec PyProof.Rows L2
theorem goodApp {X : Cx} {C : CS} {c : Ctx} {n : Nat} {x m : Str} {p ap pos : Pos} {a : Expr} {ir : E} {k : Nat} {fnb : Str → Bool} (gd : Gd C c k fnb X) (I : ∀ e ir, cE n C X.env.scope X.N e = some ir → Good X c e ir) (h : cE (n + 1) C X.env.scope X.N (.Call (.Attribute (.Name x p) m ap) [a] [] pos) = some ir) : Good X c (.Call (.Attribute (.Name x p) m ap) [a] [] pos) ir := by
  simp only [cE] at h
  by_cases hl : (ap.endLine == pos.line) = true
  · rw [if_pos hl] at h
    split at h
    · rename_i b hb
      obtain ⟨ia, h1, h2⟩ := Option.bind_eq_some_iff.mp h
      obtain ⟨ib, h3, rfl⟩ := Option.map_eq_some_iff.mp h2
      exact ⟨both_of (e_str gd hb hl rfl (I _ _ h1).1.1 (I _ _ h3).1.1 (star1_of h3)) fun _ => rfl, rfl⟩
    · obtain ⟨mt, hmt, h⟩ := Option.bind_eq_some_iff.mp h
      obtain ⟨ia, h1, h2⟩ := Option.bind_eq_some_iff.mp h
      obtain ⟨ib, h3, rfl⟩ := Option.map_eq_some_iff.mp h2
      exact ⟨both_of (e_app gd hmt hl (I _ _ h1).1.1 (I _ _ h3).1.1 (star1_of h3)) fun _ => rfl, rfl⟩
  · rw [if_neg hl] at h; cases h
theorem goodStrM {X : Cx} {C : CS} {c : Ctx} {n kd : Nat} {z m : Str} {p ap pos : Pos} {a : Expr} {ir : E} {k : Nat} {fnb : Str → Bool} (gd : Gd C c k fnb X) (I : ∀ e ir, cE n C X.env.scope X.N e = some ir → Good X c e ir) (h : cE (n + 1) C X.env.scope X.N (.Call (.Attribute (.Constant (.str z) kd p) m ap) [a] [] pos) = some ir) : Good X c (.Call (.Attribute (.Constant (.str z) kd p) m ap) [a] [] pos) ir := by
  simp only [cE] at h
  by_cases hl : (ap.endLine == pos.line) = true
  · rw [if_pos hl] at h
    obtain ⟨b, hb, h⟩ := Option.bind_eq_some_iff.mp h
    obtain ⟨ia, h1, h2⟩ := Option.bind_eq_some_iff.mp h
    obtain ⟨ib, h3, rfl⟩ := Option.map_eq_some_iff.mp h2
    exact ⟨both_of (e_str gd hb hl rfl (I _ _ h1).1.1 (I _ _ h3).1.1 (star1_of h3)) fun _ => rfl, rfl⟩
  · rw [if_neg hl] at h; cases h
theorem sound {C : CS} {c : Ctx} (n : Nat) : ∀ {k : Nat} {fnb : Str → Bool} {X : Cx} {e : Expr} {ir : E}, Gd C c k fnb X → cE n C X.env.scope X.N e = some ir → Good X c e ir := by
  induction n with
  | zero => intro k fnb X e ir gd h; simp [cE] at h
  | succ n ih =>
    intro k fnb X e ir gd h
    have I : ∀ e ir, cE n C X.env.scope X.N e = some ir → Good X c e ir := fun e ir h => ih gd h
    cases e with
    | Name x pos => exact goodName gd h
    | Constant cst kd pos => exact goodConst h
    | Tuple es j pos =>
      simp only [cE] at h
      split at h
      · rename_i hl
        obtain ⟨ia, h1, rfl⟩ := Option.map_eq_some_iff.mp h
        obtain ⟨q1, q2, q3⟩ := goodArgs rfl I h1
        exact ⟨both_of (e_tup q1 fun ρ S vs S' e => by rw [q3 _ _ _ _ e, sizeLine_eq]; omega) fun _ => rfl, rfl⟩
      · cases h
    | List es pos =>
      simp only [cE] at h
      split at h
      · rename_i hl
        obtain ⟨ia, h1, rfl⟩ := Option.map_eq_some_iff.mp h
        obtain ⟨q1, q2, q3⟩ := goodArgs rfl I h1
        exact ⟨both_of (e_lst q1 fun ρ S vs S' e => by rw [q3 _ _ _ _ e, sizeLine_eq]; omega) fun _ => rfl, rfl⟩
      · cases h
    | Dict ks vs pos =>
      cases ks with
      | nil =>
        cases vs with
        | nil =>
          simp only [cE, Option.some.injEq] at h
          subst h
          exact ⟨both_of e_dict fun _ => rfl, rfl⟩
        | cons _ _ => simp [cE, dispOf, dispKV] at h
      | cons k ks =>
        simp only [cE] at h
        obtain ⟨kvs, h1, rfl⟩ := Option.map_eq_some_iff.mp h
        exact ⟨both_of (e_disp (by simp) h1) fun _ => rfl, rfl⟩
    | BinOp a op b pos =>
      simp only [cE] at h
      obtain ⟨o, h0, h⟩ := Option.bind_eq_some_iff.mp h
      obtain ⟨ia, h1, h2⟩ := Option.bind_eq_some_iff.mp h
      obtain ⟨ib, h3, rfl⟩ := Option.map_eq_some_iff.mp h2
      exact ⟨both_of (e_op (o_bop h0) (I _ _ h1).1.1 (I _ _ h3).1.1) fun _ => rfl, rfl⟩
    | UnaryOp op a pos =>
      simp only [cE] at h
      split at h
      · obtain ⟨ia, h1, rfl⟩ := Option.map_eq_some_iff.mp h
        exact ⟨both_not (I _ _ h1).1, rfl⟩
      · obtain ⟨ia, h1, rfl⟩ := Option.map_eq_some_iff.mp h
        exact ⟨both_of (e_neg (I _ _ h1).1.1) fun _ => rfl, rfl⟩
      · cases h
    | BoolOp op vs pos =>
      simp only [cE] at h
      split at h
      · have g := goodAnd (pos := pos) I h
        exact ⟨⟨g.1.1, g.1.2.pt⟩, g.2⟩
      · have g := goodOr (pos := pos) I h
        exact ⟨⟨g.1.1, g.1.2.pt⟩, g.2⟩
    | Compare a ops bs pos => exact goodCmp gd I h
    | IfExp t a b pos =>
      simp only [cE] at h
      obtain ⟨it, h1, h2⟩ := Option.bind_eq_some_iff.mp h
      obtain ⟨ia, h3, h4⟩ := Option.bind_eq_some_iff.mp h2
      obtain ⟨ib, h5, rfl⟩ := Option.map_eq_some_iff.mp h4
      exact ⟨⟨e_ite (I _ _ h1).1.2 (I _ _ h3).1.1 (I _ _ h5).1.1, ⟨fun a b c d Q I r => let ⟨m, S, ρ, r1, e, cc⟩ := r; False.elim cc⟩⟩, rfl⟩
    | Subscript v s pos =>
      cases s with
      | Slice lo hi st p2 =>
        cases st with
        | none =>
          simp only [cE] at h
          obtain ⟨ia, h1, h2⟩ := Option.bind_eq_some_iff.mp h
          obtain ⟨ib, h3, h4⟩ := Option.bind_eq_some_iff.mp h2
          obtain ⟨ic, h5, rfl⟩ := Option.map_eq_some_iff.mp h4
          exact ⟨both_of (e_slice I h1 h3 h5) fun _ => rfl, rfl⟩
        | some z => simp [cE, isSlice] at h
      | _ =>
        simp only [cE] at h
        split at h
        · cases h
        · rename_i hs
          obtain ⟨ia, h1, h2⟩ := Option.bind_eq_some_iff.mp h
          obtain ⟨ib, h3, rfl⟩ := Option.map_eq_some_iff.mp h2
          exact ⟨both_of (e_ix gd (I _ _ h1).1.1 (I _ _ h3).1.1 (by simpa using hs)) fun _ => rfl, rfl⟩
    | Call func args kws pos =>
      cases kws with
      | cons _ _ => cases func <;> simp [cE] at h
      | nil =>
        cases func with
        | Name f p => exact goodCall gd I h
        | Attribute o m ap =>
          cases o with
          | Name x p =>
            match args, h with
            | [], h => simp [cE] at h
            | _ :: _ :: _, h => simp [cE] at h
            | [a], h => exact goodApp gd I h
          | Constant cst kd p =>
            match cst, args, h with
            | .str z, [], h => simp [cE] at h
            | .str z, _ :: _ :: _, h => simp [cE] at h
            | .str z, [a], h => exact goodStrM gd I h
            | .int _, _, h => simp [cE] at h
            | .bool _, _, h => simp [cE] at h
            | .none, _, h => simp [cE] at h
            | .float _, _, h => simp [cE] at h
            | .complex _ _, _, h => simp [cE] at h
            | .bytes _, _, h => simp [cE] at h
            | .ellipsis, _, h => simp [cE] at h
          | _ => simp [cE] at h
        | _ => simp [cE] at h
    | ListComp elt gs scope pos => exact goodComp gd (fun gd h => ih gd h) h
    | _ => simp [cE] at h
end PV

namespace PV
open PySem PySem.Spec PyProof.Rows L2
inductive CF where | nx (σ : Sg) | rt (v : V) | bk (σ : Sg) | ct (σ : Sg)
def FlR (K : PySem.W.Frag) : List Addr → Hp → CF → Fl → Prop := fun m H c f => match c, f with
  | .nx σ, .nx ρ => EnvR K m H σ ρ
  | .bk σ, .bk ρ => EnvR K m H σ ρ
  | .ct σ, .ct ρ => EnvR K m H σ ρ
  | .rt v, .rt d => DV K m H v d
  | _, _ => False
def endQ (D : Ends) : CF → Hp → Prop := fun c H => match c with
  | .nx σ => D.nx σ H
  | .rt v => D.rt v H
  | .bk σ => D.bk σ H
  | .ct σ => D.ct σ H
def tSt (K : PySem.W.Frag) (f : Env → Sto → R Fl) : TS := fun D σ H => ∃ m S ρ, Rl K m S H ∧ EnvR K m H σ ρ ∧ Cont K (FlR K) (f ρ S) m H (endQ D)
section
variable {X : Cx} {m m' : List Addr} {H H' : Hp} {S : Sto} {σ : Sg} {ρ : Env}
theorem PS.wk {e : Stmt} {t t' : TS} (h : PS X e t) (f : ∀ D σ H, t' D σ H → t D σ H) : PS X e t' := ⟨fun a b c d D I q => h.run a b c d D I (f _ _ _ q)⟩
theorem PSs.wk {e : List Stmt} {t t' : TS} (h : PSs X e t) (f : ∀ D σ H, t' D σ H → t D σ H) : PSs X e t' := ⟨fun a b c d D I q => h.run a b c d D I (f _ _ _ q)⟩
theorem s_nil : PSs X [] (tSt X.K fun ρ S => .ok (.nx ρ) S) := PSs.wk pss_nil fun D σ H ⟨m, S, ρ, r, e, cc⟩ => Cont.done (b := CF.nx σ) cc r e
theorem s_cons {st : Stmt} {rest : List Stmt} {f g : Env → Sto → R Fl} (h1 : PS X st (tSt X.K f)) (h2 : PSs X rest (tSt X.K g)) : PSs X (st :: rest) (tSt X.K fun ρ S => (f ρ S).bind fun fl S => (match fl with
    | .nx ρ' => g ρ' S
    | fl => .ok fl S)) :=
  PSs.wk (pss_cons h1 h2) fun D σ H ⟨m, S, ρ, r, e, cc⟩ => ⟨m, S, ρ, r, e, (Cont.bind (RV := FlR X.K) cc).imp fun cf H1 ⟨fl, m1, S1, G, r1, h1, c1⟩ => by
    cases cf <;> cases fl <;> first | exact False.elim h1 | skip
    · exact ⟨m1, S1, _, r1, h1, c1⟩
    · exact Cont.done (Q := endQ D) (b := CF.rt _) c1 r1 h1
    · exact Cont.done (Q := endQ D) (b := CF.bk _) c1 r1 h1
    · exact Cont.done (Q := endQ D) (b := CF.ct _) c1 r1 h1⟩
def isComp : Expr → Bool
  | .ListComp _ _ _ _ => true
  | .SetComp _ _ _ _ => true
  | .DictComp _ _ _ _ _ => true
  | _ => false
theorem noSwap {e : Expr} (h : isComp e = false) (t : Option Expr) (l : Nat) (env : PySem.Env) : swapsWith e t l env = pure false := by
  cases e <;> first | rfl | (simp [isComp] at h)
theorem noSwapS {e t : Expr} (h : isComp e = false) (l : Nat) (env : PySem.Env) : swapsWithSole [t] e l env = pure false := noSwap h _ _ _
theorem s_expr {e : Expr} {pos : Pos} {f : Env → Sto → R D} (he : PE X e (tEv X.K f)) (h : isComp e = false) : PS X (.Expr e pos) (tSt X.K fun ρ S => (f ρ S).bind fun _ S => .ok (.nx ρ) S) :=
  PS.wk (ps_expr he (noSwap h _ _ _)) fun D σ H ⟨m, S, ρ, r, e, cc⟩ => (rd1 (RV := FlR X.K) (g := fun _ ρ S => .ok (.nx ρ) S) r e cc).mono fun v H1 ⟨m1, S1, x, r1, e1, hv, c1⟩ => Cont.done (b := CF.nx σ) c1 r1 e1
theorem s_doc {x : Str} {j : Nat} {p pos : Pos} : PS X (.Expr (.Constant (.str x) j p) pos) (tSt X.K fun ρ S => .ok (.nx ρ) S) := PS.wk ps_doc fun D σ H ⟨m, S, ρ, r, e, cc⟩ => Cont.done (b := CF.nx σ) cc r e
theorem s_pass {pos : Pos} : PS X (.Pass pos) (tSt X.K fun ρ S => .ok (.nx ρ) S) := PS.wk ps_pass fun D σ H ⟨m, S, ρ, r, e, cc⟩ => Cont.done (b := CF.nx σ) cc r e
theorem s_brk {pos : Pos} : PS X (.Break pos) (tSt X.K fun ρ S => .ok (.bk ρ) S) := PS.wk ps_break fun D σ H ⟨m, S, ρ, r, e, cc⟩ => Cont.done (b := CF.bk σ) cc r e
theorem s_cont {pos : Pos} : PS X (.Continue pos) (tSt X.K fun ρ S => .ok (.ct ρ) S) := PS.wk ps_continue fun D σ H ⟨m, S, ρ, r, e, cc⟩ => Cont.done (b := CF.ct σ) cc r e
theorem s_retN {pos : Pos} : PS X (.Return none pos) (tSt X.K fun ρ S => (R.ok D.non S).bind fun x S => .ok (.rt x) S) := PS.wk ps_retN fun D σ H ⟨m, S, ρ, r, e, cc⟩ => Cont.done (b := CF.rt .non) cc r .non
theorem s_ret {e : Expr} {pos : Pos} {f : Env → Sto → R D} (he : PE X e (tEv X.K f)) : PS X (.Return (some e) pos) (tSt X.K fun ρ S => (f ρ S).bind fun x S => .ok (.rt x) S) :=
  PS.wk (ps_ret he) fun D σ H ⟨m, S, ρ, r, e, cc⟩ => (rd1 (RV := FlR X.K) (g := fun x ρ S => .ok (.rt x) S) r e cc).mono fun v H1 ⟨m1, S1, x, r1, e1, hv, c1⟩ => Cont.done (b := CF.rt v) c1 r1 hv
theorem s_if {t : Expr} {a b : List Stmt} {pos : Pos} {ft : Env → Sto → R Bool} {f g : Env → Sto → R Fl} (ht : PT X t (tTe X.K ft)) (ha : PSs X a (tSt X.K f)) (hb : PSs X b (tSt X.K g)) :
    PS X (.If t a b pos) (tSt X.K fun ρ S => (ft ρ S).bind fun t S => if t = true then f ρ S else g ρ S) :=
  PS.wk (ps_if ht ha hb) fun D σ H ⟨m, S, ρ, r, e, cc⟩ => by
    obtain ⟨m, S, ρ', r, e, cc⟩ := rdT (RV := FlR X.K) (g := fun t ρ S => if t = true then f ρ S else g ρ S) r e cc
    refine ⟨m, S, ρ', r, e, cc.imp fun t H1 ⟨m1, S1, r1, e1, c1⟩ => ?_⟩
    cases t with
    | true => exact iteT ⟨m1, S1, ρ, r1, e1, c1⟩
    | false => exact iteF ⟨m1, S1, ρ, r1, e1, c1⟩
/-! assignments -/
theorem s_name {x : Str} {p pos : Pos} {e : Expr} {i : Nat} {f : Env → Sto → R D} {fnb : Str → Bool} (nd : X.N.Nodup) (hf : ∀ x, X.fn x = fnb x) (hi : X.N[i]? = some x) (hl : locOk X.env.scope fnb x = true) (he : PE X e (tEv X.K f)) (h : isComp e = false) :
    PS X (.Assign [.Name x p] e pos) (tSt X.K fun ρ S => (f ρ S).bind fun x S => .ok (.nx (ρ.set i (some x))) S) := by
  obtain ⟨h1, h2⟩ := loc_of rfl hf hl
  exact PS.wk (ps_set nd hi h1 he (noSwap h _ _ _) h2) fun D σ H ⟨m, S, ρ, r, e, cc⟩ => (rd1 (RV := FlR X.K) (g := fun x ρ S => .ok (.nx (ρ.set i (some x))) S) r e cc).mono fun v H1 ⟨m1, S1, x, r1, e1, hv, c1⟩ => Cont.done (b := CF.nx _) c1 r1 (e1.set hv i)
def isTupleE : Expr → Bool
  | .Tuple _ _ _ => true
  | _ => false
theorem noStores {tg e : Expr} (h : isTupleE e = false) (env : PySem.Env) : swappedStores [tg] e env = pure none := by
  cases e <;> first | (cases tg <;> rfl) | (simp [isTupleE] at h)
theorem s_setT {es : List Expr} {j : Nat} {p pos : Pos} {e : Expr} {t : List Nat} {f : Env → Sto → R D} {fnb : Str → Bool} (nd : X.N.Nodup) (hc : X.calm = true) (hf : ∀ x, X.fn x = fnb x) (ht : cTg X.env.scope X.N fnb (.Tuple es j p) = some t) (he : PE X e (tEv X.K f)) (h : isComp e = false) (h2 : isTupleE e = false) :
    PS X (.Assign [.Tuple es j p] e pos) (tSt X.K fun ρ S => (f ρ S).bind fun x S => (lft (asg t x ρ) S).bind fun ρ' S => .ok (.nx ρ') S) :=
  PS.wk (ps_asg he (pg_tg nd hc hf ht) (noSwapS h _ _) (noStores h2 _)) fun D σ H ⟨m, S, ρ, r, e, cc⟩ => (rd1 (RV := FlR X.K) (g := fun x ρ S => (lft (asg t x ρ) S).bind fun ρ' S => .ok (.nx ρ') S) r e cc).mono fun v H1 ⟨m1, S1, x, r1, e1, hv, c1⟩ => by
    cases ha : asg t x ρ with
    | none => rw [ha] at c1; exact False.elim c1
    | some ρ' =>
      rw [ha] at c1
      exact ⟨m1, S1, x, ρ, ρ', r1, e1, hv, ha, fun σ' e2 _ => Cont.done (b := CF.nx σ') c1 r1 e2⟩
theorem subAssign {o i : Expr} {pos : Pos} {env : PySem.Env} (h : isSlice i = false) : ∀ v, assign (.Subscript o i pos) env v = (do
      let ov ← holding [v] (PySem.eval o env)
      let iv ← holding [v, ov] (PySem.eval i env)
      standAt pos
      holding [v, ov, iv] (setItem ov iv v)
      release [v, ov, iv] []) := by
  intro v
  cases i <;> first | rfl | (simp [isSlice] at h)
theorem s_setIx (hu : X.A.units + 1 < cLine) {o i e : Expr} {p pos : Pos} {base : Nat} {fo fi f : Env → Sto → R D} (ho : PE X o (tEv X.K fo)) (hi : PE X i (tEv X.K fi)) (he : PE X e (tEv X.K f)) (h : isComp e = false) (h2 : isTupleE e = false) (h3 : isSlice i = false) :
    PS X (.Assign [.Subscript o i p] e pos) (tSt X.K fun ρ S => (f ρ S).bind fun v S => (fo ρ S).bind fun x S => (fi ρ S).bind fun k S => (setIxD base x k v S).bind fun _ S => .ok (.nx ρ) S) :=
  PS.wk (ps_asg he (pg_sub ho hi (s_set hu (base := base)) (subAssign h3)) (noSwapS h _ _) (noStores h2 _)) fun D σ H ⟨m, S, ρ, r, e, cc⟩ => ⟨m, S, ρ, r, e, (Cont.bind (RV := DV X.K) cc).imp fun v H1 ⟨x, m1, S1, G1, r1, hv, c1⟩ =>
    ⟨m1, S1, ρ, r1, e.mono r G1, (Cont.bind (RV := DV X.K) c1).imp fun v2 H2 ⟨x2, m2, S2, G2, r2, hv2, c2⟩ => ⟨m2, S2, ρ, r2, (e.mono r G1).mono r1 G2, (Cont.bind (RV := DV X.K) c2).imp fun v3 H3 ⟨x3, m3, S3, G3, r3, hv3, c3⟩ =>
      ⟨m3, S3, x2, x3, x, r3, hv2.mono r2 G3, hv3, (hv.mono r1 G2).mono r2 G3, (Cont.bind (RV := fun _ _ (_ _ : Unit) => True) c3).imp fun _ H4 ⟨_, m4, S4, G4, r4, _, c4⟩ =>
        Cont.done (b := CF.nx σ) c4 r4 ((((e.mono r G1).mono r1 G2).mono r2 G3).mono r3 G4)⟩⟩⟩⟩
/-! op= -/
def cAug : Operator → Option Bop
  | .Add => some .add
  | .Sub => some .sub
  | _ => none
def ipR (K : PySem.W.Frag) (o : Bop) : TIp := fun x y H Q => ∃ m S u v, Rl K m S H ∧ DV K m H x u ∧ DV K m H y v ∧ Cont K (DV K) (augD o u v S) m H Q
theorem ip_aug {op : Operator} {o : Bop} (h : cAug op = some o) : PIp X op (ipR X.K o) := by
  intro pins s σ H x y v u Q I rx ry ⟨m, S, a, b, r, ha, hb, cc⟩
  cases ha with
  | int i =>
    cases hb with
    | int j =>
      cases op <;> simp only [cAug, Option.some.injEq, reduceCtorEq] at h <;> subst h
      · exact ip_add pins s σ H _ _ v u Q I rx ry ⟨i, j, rfl, rfl, Cont.done (show Cont X.K (DV X.K) (.ok (.int (i + j)) S) m H Q from cc) r (.int _)⟩
      · exact ip_sub pins s σ H _ _ v u Q I rx ry ⟨i, j, rfl, rfl, Cont.done (show Cont X.K (DV X.K) (.ok (.int (i - j)) S) m H Q from cc) r (.int _)⟩
    | _ => exact False.elim cc
  | _ => cases hb <;> exact False.elim cc
theorem s_aug {x : Str} {p pos : Pos} {e : Expr} {i : Nat} {op : Operator} {o : Bop} {f : Env → Sto → R D} {fnb : Str → Bool} (ho : cAug op = some o) (nd : X.N.Nodup) (hf : ∀ x, X.fn x = fnb x) (hi : X.N[i]? = some x) (hl : locOk X.env.scope fnb x = true) (he : PE X e (tEv X.K f)) :
    PS X (.AugAssign (.Name x p) op e pos) (tSt X.K fun ρ S => (match ρ[i]? with
    | some (some x) => (f ρ S).bind fun y S => (augD o x y S).bind fun z S => .ok (.nx (ρ.set i (some z))) S
    | _ => .bad)) := by
  obtain ⟨h1, h2⟩ := loc_of rfl hf hl
  refine PS.wk (ps_aug nd hi h1 he (ip_aug ho) h2) fun D σ H ⟨m, S, ρ, r, e, cc⟩ => ?_
  dsimp only at cc
  cases hr : ρ[i]? with
  | none => rw [hr] at cc; exact False.elim cc
  | some q =>
    cases q with
    | none => rw [hr] at cc; exact False.elim cc
    | some d =>
      rw [hr] at cc
      obtain ⟨v, q1, q2⟩ := e.2 i d hr
      exact ⟨v, q1, m, S, ρ, r, e, (Cont.bind (RV := DV X.K) cc).imp fun u H1 ⟨x1, m1, S1, G1, r1, hu, c1⟩ => ⟨m1, S1, d, x1, r1, q2.mono r G1, hu, (Cont.bind (RV := DV X.K) c1).imp fun z H2 ⟨x2, m2, S2, G2, r2, hz, c2⟩ =>
        Cont.done (b := CF.nx _) c2 r2 (((e.mono r G1).mono r1 G2).set hz i)⟩⟩
def lixR (x y : D) (S : Sto) : R D := lft (lixD x y S) S
theorem g_lix : PGet X (r2 X.K lixR) := by
  intro pins s σ H v u v' u' Q I rv ru ⟨m, S, x, y, r, hx, hy, c⟩
  obtain ⟨z, e, c9⟩ := lft_get (show Cont X.K (DV X.K) (lft (lixD x y S) S) m H Q from c)
  cases hx with
  | ref hm =>
    cases hy with
    | int i =>
      simp only [lixD] at e
      split at e
      · rename_i ds e1
        obtain ⟨ws, w1, w2, _⟩ := lstOf r hm e1
        obtain ⟨w, h1, h2⟩ := atI_at w2 e
        have q := c9.done r h2
        cases rv
        obtain ⟨t, rfl⟩ := ru
        obtain ⟨its, r9, pl, hz⟩ := I.list (.inl (.inl w1))
        obtain ⟨j, g1, g2, g3, g4, g5⟩ := atI_get h1
        obtain ⟨w', ew, rw'⟩ := r9.get g2
        have hl := r9.length
        have hn := line63
        have fin : EP X pins σ Q w' s := ⟨w, H, I, rw', q⟩
        by_cases h0 : 0 ≤ i
        · have hj : i.toNat = j := by
            rw [seqIndex_of h0 g5] at g1
            exact Option.some.inj g1
          exact getItem_listL pl.isList h0 (by omega) (by rw [hj]; exact ew) fin
        · have hj : (i + (its.toArray.size : Int)).toNat = j := by
            rw [seqIndex_neg (by omega) g4] at g1
            rw [List.size_toArray, ← hl]
            exact Option.some.inj g1
          exact wpAny_getItem_list_neg pl.isList (by omega) (by rw [List.size_toArray] <;> omega) (by omega) (by rw [hj]; simpa using ew) fin
      · cases e
    | _ => cases e
  | _ => cases hy <;> cases e
theorem augStoreOk {i : Expr} (h : isSlice i = false) : ∀ ov iv new, augStore i ov iv new = (do holding [new, ov, iv] (setItem ov iv new); release [new, ov, iv] []; pure .next) := by
  intro ov iv new
  cases i <;> first | rfl | (simp [isSlice] at h)
theorem s_augIx (hu : X.A.units + 1 < cLine) {o i e : Expr} {p pos : Pos} {base : Nat} {op : Operator} {b : Bop} {fo fi f : Env → Sto → R D} (hb : cAug op = some b) (ho : PE X o (tEv X.K fo)) (hi : PE X i (tEv X.K fi)) (he : PE X e (tEv X.K f)) (h3 : isSlice i = false) :
    PS X (.AugAssign (.Subscript o i p) op e pos) (tSt X.K fun ρ S => (fo ρ S).bind fun x S => (fi ρ S).bind fun k S => (lft (lixD x k S) S).bind fun u S => (f ρ S).bind fun y S =>
      (augD b u y S).bind fun z S => (setIxD base x k z S).bind fun _ S => .ok (.nx ρ) S) :=
  PS.wk (ps_augS ho hi g_lix he (ip_aug hb) (s_set hu (base := base)) (augStoreOk h3)) fun D σ H ⟨m, S, ρ, r, e, cc⟩ => ⟨m, S, ρ, r, e, (Cont.bind (RV := DV X.K) cc).imp fun v H1 ⟨x, m1, S1, G1, r1, hv, c1⟩ =>
    ⟨m1, S1, ρ, r1, e.mono r G1, (Cont.bind (RV := DV X.K) c1).imp fun v2 H2 ⟨x2, m2, S2, G2, r2, hv2, c2⟩ => ⟨m2, S2, x, x2, r2, hv.mono r1 G2, hv2, (Cont.bind (RV := DV X.K) c2).imp fun v3 H3 ⟨x3, m3, S3, G3, r3, hv3, c3⟩ =>
      ⟨m3, S3, ρ, r3, ((e.mono r G1).mono r1 G2).mono r2 G3, (Cont.bind (RV := DV X.K) c3).imp fun v4 H4 ⟨x4, m4, S4, G4, r4, hv4, c4⟩ => ⟨m4, S4, x3, x4, r4, hv3.mono r3 G4, hv4, (Cont.bind (RV := DV X.K) c4).imp fun v5 H5 ⟨x5, m5, S5, G5, r5, hv5, c5⟩ =>
        ⟨m5, S5, x, x2, x5, r5, (((hv.mono r1 G2).mono r2 G3).mono r3 G4).mono r4 G5, ((hv2.mono r2 G3).mono r3 G4).mono r4 G5, hv5, (Cont.bind (RV := fun _ _ (_ _ : Unit) => True) c5).imp fun _ H6 ⟨_, m6, S6, G6, r6, _, c6⟩ =>
          Cont.done (b := CF.nx σ) c6 r6 ((((((e.mono r G1).mono r1 G2).mono r2 G3).mono r3 G4).mono r4 G5).mono r5 G6)⟩⟩⟩⟩⟩⟩
end
end PV

namespace PV
open PySem PySem.Spec PyProof.Rows L2
section
variable {X : Cx} {m m' : List Addr} {H H' : Hp} {S : Sto} {σ : Sg} {ρ : Env}
theorem s_for {tg it : Expr} {body : List Stmt} {pos : Pos} {t : List Nat} {fi : Env → Sto → R Src} {fb : Env → Sto → R Fl} (hp : PassesOwn (model X.prog X.w) X.A X.env X.xe) (hc : X.calm = true) (hi : PI X tg it (tIt X.K fi)) (hg : PG X tg (tTg X.K t)) (hb : PSs X body (tSt X.K fb)) (hs : isSet it = false) :
    PS X (.For tg it body [] pos) (tSt X.K fun ρ S => (fi ρ S).bind fun s S => forL s.watch (fun x ρ S => (lft (asg t x ρ) S).bind fun ρ' S => fb ρ' S) s.items ρ S) := by
  refine PS.wk (ps_for hp hc hi hg hb (foldedNone hs X.env)) fun D σ H ⟨m, S, ρ, r, en, c⟩ => ?_
  refine ⟨m, S, ρ, r, en, (Cont.bind (RV := SR X.K) c).imp fun J H1 ⟨s, m1, S1, G1, r1, sr, c1⟩ => ?_⟩
  obtain ⟨items, w⟩ := s
  obtain ⟨hlen, sr⟩ := sr
  replace c1 : Cont X.K (FlR X.K) (forL w (fun x ρ S => (lft (asg t x ρ) S).bind fun ρ' S => fb ρ' S) items ρ S1) m1 H1 (endQ D) := c1
  refine ⟨fun i k σ Hc => k = items.length - i ∧ i ≤ items.length ∧ ∃ mc Sc ρ, Gro m1 mc H1 Hc ∧ Rl X.K mc Sc Hc ∧ EnvR X.K mc Hc σ ρ ∧ Cont X.K (FlR X.K) (forL w (fun x ρ S => (lft (asg t x ρ) S).bind fun ρ' S => fb ρ' S) (items.drop i) ρ Sc) mc Hc (endQ D),
    ⟨items.length, rfl, Nat.zero_le _, m1, S1, ρ, Gro.refl _ _, r1, en.mono r G1, c1⟩, ?_⟩
  rintro i k σ Hc ⟨rfl, hi, mc, Sc, ρ, G, rc, ec, cc⟩
  by_cases hlt : i < items.length
  · rw [List.drop_eq_getElem_cons hlt] at cc
    unfold forL at cc
    by_cases hgd : Src.good w Sc
    · rw [if_pos hgd] at cc
      obtain ⟨_, s2⟩ := sr i mc Sc Hc G.w rc hgd
      obtain ⟨hgo, hy⟩ := s2 items[i] (List.getElem?_eq_getElem hlt)
      refine .inr ⟨hgo, _, fun σ' H' nx => ⟨items.length - (i + 1), by omega, nx⟩, fun x H2 yy => ?_⟩
      obtain ⟨g2, r2, hx⟩ := hy x H2 yy
      cases ha : asg t items[i] ρ with
      | none => rw [ha] at cc; exact False.elim cc
      | some ρ' =>
        rw [ha, lft_some, R.bind_ok] at cc
        refine ⟨mc, Sc, items[i], ρ, ρ', r2, ec.mono rc g2, hx, ha, fun σ' en3 _ => ⟨mc, Sc, ρ', r2, en3, (Cont.bind (RV := FlR X.K) (cc.mono g2)).imp fun cf H3 ⟨fl, m3, S3, g3, r3, hf, c3⟩ => ?_⟩⟩
        cases cf <;> cases fl <;> first | exact False.elim hf | skip
        · exact ⟨rfl, hlt, m3, S3, _, (G.trans g2).trans g3, r3, hf, c3⟩
        · exact Cont.done (Q := endQ D) (b := CF.rt _) c3 r3 hf
        · exact Cont.done (Q := endQ D) (b := CF.nx _) c3 r3 hf
        · exact ⟨rfl, hlt, m3, S3, _, (G.trans g2).trans g3, r3, hf, c3⟩
    · rw [if_neg hgd] at cc; exact False.elim cc
  · have hi : i = items.length := by omega
    subst hi
    rw [List.drop_length] at cc
    unfold forL at cc
    by_cases hgd : Src.good w Sc
    · rw [if_pos hgd] at cc
      obtain ⟨s1, _⟩ := sr items.length mc Sc Hc G.w rc hgd
      exact .inl ⟨s1 (Nat.le_refl _), Cont.done (Q := endQ D) (b := CF.nx σ) cc rc ec⟩
    · rw [if_neg hgd] at cc; exact False.elim cc
theorem s_while {c : Expr} {body : List Stmt} {pos : Pos} {ft : Env → Sto → R Bool} {fb : Env → Sto → R Fl} (hp : PassesOwn (model X.prog X.w) X.A X.env X.xe) (hc : PT X c (tTe X.K ft)) (hb : PSs X body (tSt X.K fb)) :
    PS X (.While c body [] pos) (tSt X.K fun ρ S => wh ft fb ρ S) := by
  refine PS.wk (ps_while hp hc hb) fun D σ H ⟨m, S, ρ, r, en, c⟩ => ?_
  dsimp only [wh] at c
  split at c
  · rename_i hh
    refine ⟨fun k σ Hc => ∃ mc Sc ρ, Rl X.K mc Sc Hc ∧ EnvR X.K mc Hc σ ρ ∧ Cont X.K (FlR X.K) (whN ft fb k ρ Sc) mc Hc (endQ D), ⟨hh.choose, m, S, ρ, r, en, c⟩, ?_⟩
    rintro k σ Hc ⟨mc, Sc, ρ, rc, ec, cc⟩
    cases k with
    | zero => exact False.elim cc
    | succ k =>
      unfold whN at cc
      refine ⟨mc, Sc, ρ, rc, ec, (Cont.bind (RV := BR) cc).imp fun b H1 ⟨b', m1, S1, G1, r1, hb, c1⟩ => ?_⟩
      cases hb
      cases b with
      | false =>
        rw [if_neg (by simp)] at c1 ⊢
        exact Cont.done (Q := endQ D) (b := CF.nx σ) c1 r1 (ec.mono rc G1)
      | true =>
        rw [if_pos rfl] at c1 ⊢
        refine ⟨_, fun σ' H' nx => ⟨k, Nat.lt_succ_self _, nx⟩, m1, S1, ρ, r1, ec.mono rc G1, (Cont.bind (RV := FlR X.K) c1).imp fun cf H3 ⟨fl, m3, S3, g3, r3, hf, c3⟩ => ?_⟩
        cases cf <;> cases fl <;> first | exact False.elim hf | skip
        · exact ⟨m3, S3, _, r3, hf, c3⟩
        · exact Cont.done (Q := endQ D) (b := CF.rt _) c3 r3 hf
        · exact Cont.done (Q := endQ D) (b := CF.nx _) c3 r3 hf
        · exact ⟨m3, S3, _, r3, hf, c3⟩
  · exact False.elim c
/-! ### statements, from the text -/
def fuelE : Nat := 60
def compSw (sc : Scope) (y : Str) (pl cl : Nat) (scope : Scope) : Bool := (match sc.kind with
    | .function => true
    | _ => false) && (match sc.names.lookup y with
    | some .local => true
    | _ => false) && (pl == cl) && !(scope.names.any fun (n, k) => n == y && (k == .local || k == .cell))
/-- a comprehension's value set to a name that inner blocks see -/
def compCl (sc : Scope) (y : Str) : Bool := (match sc.names.lookup y with
    | some .cell => true
    | _ => false)
def compScope : Expr → Option Scope
  | .ListComp _ _ s _ => some s
  | _ => none
def cS1 (rec : List Stmt → Option T) (C : CS) (sc : Scope) (N : List Str) (st : Stmt) : Option T :=
  match st with
  | .Expr (.Constant (.str _) _ _) _ => some .skip
  | .Expr e _ => if isComp e = true then none else (cE fuelE C sc N e).map .expr
  | .Assign [.Name x px] e _ => (match e with
    | .ListComp elt gs s p => if compSw sc x px.line p.line s = true then (ixOf N x).bind fun i => (cE fuelE C sc N (.ListComp elt gs s p)).map fun a => .set i a else if compCl sc x = true then (ixOf N x).bind fun i => (cE fuelE C sc N (.ListComp elt gs s p)).map fun a => .set i a else none
    | e => if isComp e = true ∨ locOk sc (fun _ => true) x = false then none else (ixOf N x).bind fun i => (cE fuelE C sc N e).map fun a => .set i a)
  | .Assign [.Tuple es j p] e _ => if isComp e = true ∨ isTupleE e = true then none else (cTg sc N (fun _ => true) (.Tuple es j p)).bind fun t => (cE fuelE C sc N e).map fun a => .setT t a
  | .Assign [.Subscript o i _] e _ => if isComp e = true ∨ isTupleE e = true ∨ isSlice i = true then none else (cE fuelE C sc N e).bind fun a => (cE fuelE C sc N o).bind fun x => (cE fuelE C sc N i).map fun k => .setIx x k a
  | .AugAssign (.Name x _) op e _ => if locOk sc (fun _ => true) x = false then none else (cAug op).bind fun o => (ixOf N x).bind fun i => (cE fuelE C sc N e).map fun a => .aug i o a
  | .AugAssign (.Subscript o i _) op e _ => if isSlice i = true then none else (cAug op).bind fun b => (cE fuelE C sc N o).bind fun x => (cE fuelE C sc N i).bind fun k => (cE fuelE C sc N e).map fun a => .augIx x k b a
  | .If t a b _ => (cE fuelE C sc N t).bind fun x => (rec a).bind fun y => (rec b).map fun z => .ife x y z
  | .For tg it body [] _ => if isSet it = true then none else (cI true (isTuple tg) sc (cE fuelE C sc N) it).bind fun i => (cTg sc N (fun _ => true) tg).bind fun t => (rec body).map fun b => .for_ t i b
  | .While t body [] _ => (cE fuelE C sc N t).bind fun x => (rec body).map fun b => .while_ x b
  | .Return (some e) _ => (cE fuelE C sc N e).map .ret
  | .Return none _ => some (.ret .cn)
  | .Break _ => some .brk
  | .Continue _ => some .cont
  | .Pass _ => some .skip
  | _ => none
def cS : Nat → CS → Scope → List Str → List Stmt → Option T
  | 0, _, _, _, _ => none
  | _ + 1, _, _, _, [] => some .skip
  | n + 1, C, sc, N, st :: rest => (cS1 (cS n C sc N) C sc N st).bind fun a => (cS n C sc N rest).map fun b => .seq a b
end
section
variable {X : Cx} {C : CS} {c : Ctx} {k : Nat}
theorem compSw_get {sc : Scope} {y : Str} {px p : Pos} {elt : Expr} {gs : List Comprehension} {scope : Scope} {l : Nat} {env : PySem.Env} (hs : env.scope = sc) (h : compSw sc y px.line p.line scope = true) :
    sc.names.lookup y = some .local ∧ swapsWith (.ListComp elt gs scope p) (some (.Name y px)) l env = pure true := by
  subst hs
  unfold compSw at h
  simp only [Bool.and_eq_true, Bool.not_eq_true'] at h
  obtain ⟨⟨⟨h1, h2⟩, h3⟩, h4⟩ := h
  have k1 : env.scope.kind = .function := by
    split at h1
    · assumption
    · cases h1
  have k2 : env.scope.names.lookup y = some .local := by
    split at h2
    · assumption
    · cases h2
  exact ⟨k2, sw_true k1 k2 h3 h4⟩
theorem compCl_get {sc : Scope} {y : Str} {px p : Pos} {elt : Expr} {gs : List Comprehension} {scope : Scope} {l : Nat} {env : PySem.Env} (hs : env.scope = sc) (h : compCl sc y = true) :
    sc.names.lookup y = some .cell ∧ swapsWith (.ListComp elt gs scope p) (some (.Name y px)) l env = pure false := by
  subst hs
  have k2 : env.scope.names.lookup y = some .cell := by
    unfold compCl at h
    split at h
    · assumption
    · cases h
  refine ⟨k2, ?_⟩
  have ky : env.kindOf y = some .cell := k2
  unfold swapsWith
  simp only [ky]
  show pure _ = pure false
  congr 1
  simp
theorem sound1 {rec : List Stmt → Option T} (gd : Gd C c k (fun _ => true) X) (ih : ∀ sts b, rec sts = some b → PSs X sts (tSt X.K (exec c b))) {st : Stmt} {b : T} (h : cS1 rec C X.env.scope X.N st = some b) : PS X st (tSt X.K (exec c b)) := by
  have I : ∀ {e : Expr} {ir : E}, cE fuelE C X.env.scope X.N e = some ir → Good X c e ir := fun h => sound fuelE gd h
  unfold cS1 at h
  split at h
  · cases h; exact s_doc
  · split at h
    · cases h
    · rename_i hc
      obtain ⟨a, h1, rfl⟩ := Option.map_eq_some_iff.mp h
      exact s_expr (I h1).1.1 (by simpa using hc)
  · rename_i x px e pos
    split at h
    · rename_i elt gs s p
      split at h
      · rename_i hsw
        obtain ⟨i, h1, h2⟩ := Option.bind_eq_some_iff.mp h
        obtain ⟨a, h3, rfl⟩ := Option.map_eq_some_iff.mp h2
        obtain ⟨hl, hsw⟩ := compSw_get (env := X.env) (l := pos.line) (elt := elt) (gs := gs) rfl hsw
        by_cases hone : gs.length = 1
        · obtain ⟨tg, it, ifs, wi, g, tt, te, own, rfl, q1, q2, q3, q4, q5, q6, q7, f, hf⟩ := comp_parts (n := 59) hone gd (fun gd h => sound 59 gd h) h3
          refine PS.wk (ps_setLc (pos := p) gd.calm gd.nd (ixOf_get h1) hl hsw q1 q2 q3 q4 q5 q6) fun D σ H ⟨m, S, ρ, r, e, cc⟩ => q7 _ _ _ ?_
          exact (rd1 (RV := FlR X.K) (g := fun x ρ S => .ok (.nx (ρ.set i (some x))) S) r e cc).mono fun v H1 ⟨m1, S1, x, r1, e1, hv, c1⟩ => Cont.done (Q := endQ D) (b := CF.nx _) c1 r1 (e1.set hv i)
        · obtain ⟨tg, it, tg1, it1, ifs1, wi, g, tt, wi1, g1, tt1, te, own, vs1, rfl, q1, q2, qv, q3, q4, q8, q9, q10, q5, q6, q11, q7, f, hf⟩ := comp2_parts (n := 59) hone gd (fun gd h => sound 59 gd h) h3
          refine PS.wk (ps_setLc2 (pos := p) gd.calm gd.nd (ixOf_get h1) hl hsw q1 q2 qv q3 q4 q8 q9 q10 q5 q6 q11) fun D σ H ⟨m, S, ρ, r, e, cc⟩ => q7 _ _ _ ?_
          exact (rd1 (RV := FlR X.K) (g := fun x ρ S => .ok (.nx (ρ.set i (some x))) S) r e cc).mono fun v H1 ⟨m1, S1, x, r1, e1, hv, c1⟩ => Cont.done (Q := endQ D) (b := CF.nx _) c1 r1 (e1.set hv i)
      · split at h
        · rename_i hcl
          obtain ⟨i, h1, h2⟩ := Option.bind_eq_some_iff.mp h
          obtain ⟨a, h3, rfl⟩ := Option.map_eq_some_iff.mp h2
          obtain ⟨hl, hsw⟩ := compCl_get (env := X.env) (l := pos.line) (elt := elt) (gs := gs) (px := px) (p := p) (scope := s) rfl hcl
          exact PS.wk (ps_set gd.nd (ixOf_get h1) (.inr hl) (I h3).1.1 hsw (.inl (gd.fnb x))) fun D σ H ⟨m, S, ρ, r, e, cc⟩ => (rd1 (RV := FlR X.K) (g := fun x ρ S => .ok (.nx (ρ.set i (some x))) S) r e cc).mono fun v H1 ⟨m1, S1, x, r1, e1, hv, c1⟩ => Cont.done (Q := endQ D) (b := CF.nx _) c1 r1 (e1.set hv i)
        · cases h
    · split at h
      · cases h
      · rename_i hc
        simp only [not_or, Bool.not_eq_true, Bool.not_eq_false] at hc
        obtain ⟨i, h1, h2⟩ := Option.bind_eq_some_iff.mp h
        obtain ⟨a, h3, rfl⟩ := Option.map_eq_some_iff.mp h2
        exact s_name gd.nd gd.fnb (ixOf_get h1) hc.2 (I h3).1.1 hc.1
  · split at h
    · cases h
    · rename_i hc
      simp only [not_or, Bool.not_eq_true, Bool.not_eq_false] at hc
      obtain ⟨t, h1, h2⟩ := Option.bind_eq_some_iff.mp h
      obtain ⟨a, h3, rfl⟩ := Option.map_eq_some_iff.mp h2
      exact s_setT gd.nd gd.calm gd.fnb h1 (I h3).1.1 hc.1 hc.2
  · split at h
    · cases h
    · rename_i hc
      simp only [not_or, Bool.not_eq_true, Bool.not_eq_false] at hc
      obtain ⟨a, h1, h2⟩ := Option.bind_eq_some_iff.mp h
      obtain ⟨x, h3, h4⟩ := Option.bind_eq_some_iff.mp h2
      obtain ⟨y, h5, rfl⟩ := Option.map_eq_some_iff.mp h4
      exact s_setIx (by have := gd.hu; omega) (I h3).1.1 (I h5).1.1 (I h1).1.1 hc.1 hc.2.1 hc.2.2
  · split at h
    · cases h
    · rename_i hc
      simp only [Bool.not_eq_false] at hc
      obtain ⟨o, h1, h2⟩ := Option.bind_eq_some_iff.mp h
      obtain ⟨i, h3, h4⟩ := Option.bind_eq_some_iff.mp h2
      obtain ⟨y, h5, rfl⟩ := Option.map_eq_some_iff.mp h4
      exact s_aug h1 gd.nd gd.fnb (ixOf_get h3) hc (I h5).1.1
  · split at h
    · cases h
    · rename_i hc
      obtain ⟨o, h1, h2⟩ := Option.bind_eq_some_iff.mp h
      obtain ⟨x, h3, h4⟩ := Option.bind_eq_some_iff.mp h2
      obtain ⟨i, h5, h6⟩ := Option.bind_eq_some_iff.mp h4
      obtain ⟨y, h7, rfl⟩ := Option.map_eq_some_iff.mp h6
      exact s_augIx (by have := gd.hu; omega) h1 (I h3).1.1 (I h5).1.1 (I h7).1.1 (by simpa using hc)
  · obtain ⟨x, h3, h4⟩ := Option.bind_eq_some_iff.mp h
    obtain ⟨i, h5, h6⟩ := Option.bind_eq_some_iff.mp h4
    obtain ⟨y, h7, rfl⟩ := Option.map_eq_some_iff.mp h6
    exact s_if (I h3).1.2 (ih _ _ h5) (ih _ _ h7)
  · split at h
    · cases h
    · rename_i hc
      obtain ⟨x, h3, h4⟩ := Option.bind_eq_some_iff.mp h
      obtain ⟨i, h5, h6⟩ := Option.bind_eq_some_iff.mp h4
      obtain ⟨y, h7, rfl⟩ := Option.map_eq_some_iff.mp h6
      exact s_for gd.pass gd.calm (goodI gd id (fun e ir h => I h) h3) (pg_tg gd.nd gd.calm gd.fnb h5) (ih _ _ h7) (by simpa using hc)
  · obtain ⟨x, h3, h4⟩ := Option.bind_eq_some_iff.mp h
    obtain ⟨y, h7, rfl⟩ := Option.map_eq_some_iff.mp h4
    exact s_while gd.pass (I h3).1.2 (ih _ _ h7)
  · obtain ⟨y, h7, rfl⟩ := Option.map_eq_some_iff.mp h
    exact s_ret (I h7).1.1
  · cases h; exact s_retN
  · cases h; exact s_brk
  · cases h; exact s_cont
  · cases h; exact s_pass
  · cases h
theorem soundS (gd : Gd C c k (fun _ => true) X) (n : Nat) : ∀ (sts : List Stmt) (b : T), cS n C X.env.scope X.N sts = some b → PSs X sts (tSt X.K (exec c b)) := by
  induction n with
  | zero => intro sts b h; cases h
  | succ n ih =>
    intro sts b h
    cases sts with
    | nil => cases h; exact s_nil
    | cons st rest =>
      obtain ⟨a, h1, h2⟩ := Option.bind_eq_some_iff.mp h
      obtain ⟨b', h3, rfl⟩ := Option.map_eq_some_iff.mp h2
      exact s_cons (sound1 gd ih h1) (ih _ _ h3)
end
end PV

namespace PV
open PySem PySem.Spec PyProof.Rows L2
/-! ### what stands below a frame stays closed -/
mutual
def D.low (b : Nat) : D → Bool
  | .tup xs => D.lows b xs
  | .fls xs => D.lows b xs
  | .ctu xs => D.lows b xs
  | .ref n => decide (n < b)
  | _ => true
def D.lows (b : Nat) : List D → Bool
  | [] => true
  | x :: xs => x.low b && D.lows b xs
end
mutual
theorem pur_low (b : Nat) : ∀ d : D, d.pur = true → d.low b = true
  | .tup xs, h => purs_lows b xs (by simpa [D.pur] using h)
  | .fls _, h => by simp [D.pur] at h
  | .ref _, h => by simp [D.pur] at h
  | .ctu _, h => by simp [D.pur] at h
  | .cdc _, h => by simp [D.pur] at h
  | .non, _ => rfl
  | .bl _, _ => rfl
  | .int _, _ => rfl
  | .str _, _ => rfl
theorem purs_lows (b : Nat) : ∀ ds : List D, D.purs ds = true → D.lows b ds = true
  | [], _ => rfl
  | d :: ds, h => by
    rw [D.purs, Bool.and_eq_true] at h
    rw [D.lows, Bool.and_eq_true]
    exact ⟨pur_low b d h.1, purs_lows b ds h.2⟩
end
theorem lows_append {b : Nat} : ∀ {xs ys : List D}, D.lows b xs = true → D.lows b ys = true → D.lows b (xs ++ ys) = true
  | [], _, _, h => h
  | x :: xs, ys, h, h' => by
    rw [D.lows, Bool.and_eq_true] at h
    rw [List.cons_append, D.lows, Bool.and_eq_true]
    exact ⟨h.1, lows_append h.2 h'⟩
theorem lows_set {b : Nat} : ∀ {xs : List D} {v : D} (i : Nat), D.lows b xs = true → v.low b = true → D.lows b (xs.set i v) = true
  | [], _, _, h, _ => h
  | x :: xs, v, 0, h, h' => by
    rw [D.lows, Bool.and_eq_true] at h
    rw [List.set_cons_zero, D.lows, Bool.and_eq_true]
    exact ⟨h', h.2⟩
  | x :: xs, v, i + 1, h, h' => by
    rw [D.lows, Bool.and_eq_true] at h
    rw [List.set_cons_succ, D.lows, Bool.and_eq_true]
    exact ⟨h.1, lows_set i h.2 h'⟩
theorem lows_erase {b : Nat} : ∀ {xs : List D} (i : Nat), D.lows b xs = true → D.lows b (xs.eraseIdx i) = true
  | [], _, h => h
  | x :: xs, 0, h => by
    rw [D.lows, Bool.and_eq_true] at h
    exact h.2
  | x :: xs, i + 1, h => by
    rw [D.lows, Bool.and_eq_true] at h
    rw [List.eraseIdx_cons_succ, D.lows, Bool.and_eq_true]
    exact ⟨h.1, lows_erase i h.2⟩
def O.lows (b : Nat) : O → Bool
  | .lst ds => D.lows b ds
  | .dic kvs => kvs.all fun p => p.2.low b
def Cl (b : Nat) (S : Sto) : Prop := b ≤ S.length ∧ ∀ i o, i < b → S[i]? = some o → o.lows b = true
theorem Cl.lst {b : Nat} {S : Sto} (h : Cl b S) (i : Nat) (ds : List D) (hi : i < b) (e : S[i]? = some (.lst ds)) : D.lows b ds = true := h.2 i _ hi e
theorem all_put {b : Nat} {kvs : List (D × D)} {k v : D} (h : (kvs.all fun p => p.2.low b) = true) (hv : v.low b = true) : ((putD kvs k v).all fun p => p.2.low b) = true := by
  unfold putD
  split
  · rw [List.all_map, List.all_eq_true]
    intro p hp
    dsimp only [Function.comp]
    split
    · exact hv
    · exact (List.all_eq_true.mp h) p hp
  · rw [List.all_append, h, List.all_cons, hv]; rfl
def Pv {α : Type} (b : Nat) (r : R α) : Prop := match r with
  | .ok _ S => Cl b S
  | _ => True
theorem Pv.bind {α β : Type} {b : Nat} {r : R α} {g : α → Sto → R β} (h : Pv b r) (hg : ∀ a S, Cl b S → Pv b (g a S)) : Pv b (r.bind g) := by
  cases r with
  | ok a S => exact hg a S h
  | exc _ _ _ => trivial
  | bad => trivial
theorem Pv.lft {α : Type} {b : Nat} {o : Option α} {S : Sto} (h : Cl b S) : Pv b (lft o S) := by
  cases o with
  | none => trivial
  | some a => exact h
theorem Cl.push {b : Nat} {S : Sto} (h : Cl b S) (o : O) : Cl b (S ++ [o]) := by
  refine ⟨by rw [List.length_append]; exact Nat.le_trans h.1 (Nat.le_add_right _ _), fun i ds hi e => h.2 i ds hi ?_⟩
  rw [List.getElem?_append_left (Nat.lt_of_lt_of_le hi h.1)] at e
  exact e
theorem Cl.putO {b : Nat} {S : Sto} (h : Cl b S) (a : Nat) (o : O) (hd : a < b → o.lows b = true) : Cl b (S.set a o) := by
  refine ⟨by rw [List.length_set]; exact h.1, fun i es hi e => ?_⟩
  by_cases hai : a = i
  · subst hai
    rw [List.getElem?_set_self (Nat.lt_of_lt_of_le hi h.1)] at e
    cases e
    exact hd hi
  · rw [List.getElem?_set_ne hai] at e
    exact h.2 i es hi e
theorem Cl.put {b : Nat} {S : Sto} (h : Cl b S) (a : Nat) (ds : List D) (hd : a < b → D.lows b ds = true) : Cl b (S.set a (.lst ds)) := h.putO a _ hd
theorem okPut_low {base a b : Nat} {v : D} (h : okPut base a v = true) (hb : b ≤ base) (ha : a < b) : v.low b = true := by
  unfold okPut at h
  rw [Bool.or_eq_true, decide_eq_true_eq] at h
  rcases h with h | h
  · exact pur_low b v h
  · omega
section
variable {b : Nat}
theorem Pv.alloc {o : O} {S : Sto} (h : Cl b S) : Pv b (PV.alloc o S) := h.push o
theorem Pv.catL {x y : Nat} {S : Sto} (h : Cl b S) : Pv b (PV.catL x y S) := by
  unfold PV.catL
  split
  · split
    · exact h.push _
    · trivial
  · trivial
theorem Pv.repL {x : Nat} {k : Int} {S : Sto} (h : Cl b S) : Pv b (PV.repL x k S) := by
  unfold PV.repL
  split
  · split
    · exact h.push _
    · trivial
  · trivial
theorem Pv.binD {op : Bop} {x y : D} {S : Sto} (h : Cl b S) : Pv b (PV.binD op x y S) := by
  unfold PV.binD
  repeat' split
  all_goals first | exact h | trivial | exact Pv.catL h | exact Pv.repL h
theorem Pv.augD {op : Bop} {x y : D} {S : Sto} (h : Cl b S) : Pv b (PV.augD op x y S) := by
  unfold PV.augD
  repeat' split
  all_goals first | exact Pv.binD h | trivial
theorem Pv.biD {f : Bi} {xs : List D} {S : Sto} (h : Cl b S) : Pv b (PV.biD f xs S) := by
  unfold PV.biD
  split
  · unfold PV.bi1
    repeat' split
    all_goals first | exact h | trivial | exact Pv.lft h | exact h.push _ | skip
    exact Pv.bind (Pv.lft h) fun _ _ h => by
      try dsimp only
      split
      · exact h.push _
      · trivial
  · unfold PV.bi2
    repeat' split
    all_goals first | exact h | trivial | skip
    exact Pv.bind (Pv.lft h) fun _ _ h => by
      try dsimp only
      split
      · exact h
      · trivial
  · unfold PV.bi3
    split
    · exact h
    · trivial
  · trivial
theorem Pv.methD {base : Nat} {m : Mt} {o : D} {xs : List D} {S : Sto} (h : Cl b S) (hb : b ≤ base) : Pv b (PV.methD base m o xs S) := by
  unfold PV.methD
  split
  · rename_i a v
    split
    · rename_i ys e
      split
      · rename_i hk
        exact h.put a _ fun ha => lows_append (h.lst a ys ha e) (by rw [D.lows, D.lows, Bool.and_true]; exact okPut_low hk.1 hb ha)
      · trivial
    · trivial
  · rename_i a v
    split
    · split
      · split
        · exact h
        · trivial
      · trivial
    · trivial
  · rename_i a i
    split
    · rename_i ys e
      split
      · rename_i j _
        split
        · exact h.put a _ fun ha => lows_erase j (h.lst a ys ha e)
        · trivial
      · trivial
    · trivial
  · trivial
theorem Pv.sliceD {x : D} {lo hi : Option Int} {S : Sto} (h : Cl b S) : Pv b (PV.sliceD x lo hi S) := by
  unfold PV.sliceD
  split
  · exact h
  · exact h
  · exact Pv.bind (Pv.lft h) fun _ _ h => h.push _
theorem Pv.revD {x : D} {S : Sto} (h : Cl b S) : Pv b (PV.revD x S) := by
  unfold PV.revD
  split
  · exact h
  · trivial
theorem Pv.ssetD {x : D} {S : Sto} (h : Cl b S) : Pv b (PV.ssetD x S) := by
  unfold PV.ssetD
  refine Pv.bind (Pv.lft h) fun ys S h => ?_
  cases intsOf ys with
  | some ns =>
    dsimp only
    split
    · exact h.push _
    · trivial
  | none =>
    refine Pv.bind (Pv.lft h) fun ks S h => ?_
    split
    · exact h.push _
    · trivial
theorem Pv.dputD {base a : Nat} {kvs : List (D × D)} {k v : D} {S : Sto} (h : Cl b S) (hb : b ≤ base) (e : S[a]? = some (.dic kvs)) : Pv b (PV.dputD base a kvs k v S) := by
  unfold PV.dputD
  split
  · rename_i hk
    exact h.putO a _ fun ha => all_put (h.2 a (.dic kvs) ha e) (okPut_low hk.2.1 hb ha)
  · trivial
theorem Pv.setIxD {base : Nat} {o i v : D} {S : Sto} (h : Cl b S) (hb : b ≤ base) : Pv b (PV.setIxD base o i v S) := by
  unfold PV.setIxD
  split
  · rename_i a k
    split
    · rename_i ys e
      split
      · split
        · rename_i hk
          exact h.put a _ fun ha => lows_set _ (h.lst a ys ha e) (okPut_low hk hb ha)
        · trivial
      · trivial
    · rename_i kvs e
      exact Pv.dputD h hb e
    · trivial
  · split
    · rename_i kvs e
      exact Pv.dputD h hb e
    · trivial
  · trivial
/-- all four meanings keep what is below b closed -/
structure Keeps (b : Nat) (μ : Mean) : Prop where
  ev : ∀ ρ S, Cl b S → Pv b (μ.ev ρ S)
  te : ∀ ρ S, Cl b S → Pv b (μ.te ρ S)
  es : ∀ ρ S, Cl b S → Pv b (μ.es ρ S)
  it : ∀ ρ S, Cl b S → Pv b (μ.it ρ S)
  il : ∀ ρ S, Cl b S → Pv b (μ.il ρ S)
theorem Keeps.of {f : Env → Sto → R D} (h : ∀ ρ S, Cl b S → Pv b (f ρ S)) : Keeps b (Mean.of f) :=
  ⟨h, fun ρ S c => Pv.bind (h ρ S c) fun _ _ c => Pv.lft c, fun _ _ _ => trivial, fun ρ S c => Pv.bind (h ρ S c) fun _ _ c => Pv.lft c, fun ρ S c => Pv.bind (h ρ S c) fun _ _ c => Pv.lft c⟩
theorem Keeps.ofIt {f : Env → Sto → R Src} (h : ∀ ρ S, Cl b S → Pv b (f ρ S)) : Keeps b (Mean.ofIt f) := ⟨fun _ _ _ => trivial, fun _ _ _ => trivial, fun _ _ _ => trivial, h, h⟩
theorem Keeps.ofTe {f : Env → Sto → R D} {g : Env → Sto → R Bool} (h : ∀ ρ S, Cl b S → Pv b (f ρ S)) (h' : ∀ ρ S, Cl b S → Pv b (g ρ S)) : Keeps b (Mean.ofTe f g) :=
  ⟨h, h', fun _ _ _ => trivial, fun ρ S c => Pv.bind (h ρ S c) fun _ _ c => Pv.lft c, fun ρ S c => Pv.bind (h ρ S c) fun _ _ c => Pv.lft c⟩
theorem Pv.compL {w : List (Nat × List D)} {step : D → Sto → R (Option D)} (hs : ∀ x S, Cl b S → Pv b (step x S)) : ∀ (xs : List D) (S : Sto), Cl b S → Pv b (compL w step xs S)
  | [], S, h => by
    unfold PV.compL
    split
    · exact h
    · trivial
  | x :: xs, S, h => by
    unfold PV.compL
    split
    · exact Pv.bind (hs x S h) fun o S1 h1 => Pv.bind (Pv.compL hs xs S1 h1) fun _ _ h => h
    · trivial
theorem Pv.flatL {w : List (Nat × List D)} {step : D → Sto → R (List D)} (hs : ∀ x S, Cl b S → Pv b (step x S)) : ∀ (xs : List D) (S : Sto), Cl b S → Pv b (flatL w step xs S)
  | [], S, h => by
    unfold PV.flatL
    split
    · exact h
    · trivial
  | x :: xs, S, h => by
    unfold PV.flatL
    split
    · exact Pv.bind (hs x S h) fun o S1 h1 => Pv.bind (Pv.flatL hs xs S1 h1) fun _ _ h => h
    · trivial
theorem Pv.allocB {vs : List D} {S : Sto} (h : Cl b S) : Pv b (allocB vs S) := by
  unfold PV.allocB
  split
  · exact h.push _
  · trivial
theorem Pv.forL {w : List (Nat × List D)} {step : D → Env → Sto → R Fl} (hs : ∀ x ρ S, Cl b S → Pv b (step x ρ S)) : ∀ (xs : List D) (ρ : Env) (S : Sto), Cl b S → Pv b (forL w step xs ρ S)
  | [], ρ, S, h => by
    unfold PV.forL
    split
    · exact h
    · trivial
  | x :: xs, ρ, S, h => by
    unfold PV.forL
    split
    · refine Pv.bind (hs x ρ S h) fun fl S1 h1 => ?_
      cases fl with
      | nx ρ' => exact Pv.forL hs xs ρ' S1 h1
      | ct ρ' => exact Pv.forL hs xs ρ' S1 h1
      | bk ρ' => exact h1
      | rt v => exact h1
    · trivial
theorem Pv.whN {c : Env → Sto → R Bool} {f : Env → Sto → R Fl} (hc : ∀ ρ S, Cl b S → Pv b (c ρ S)) (hf : ∀ ρ S, Cl b S → Pv b (f ρ S)) : ∀ (n : Nat) (ρ : Env) (S : Sto), Cl b S → Pv b (whN c f n ρ S)
  | 0, ρ, S, h => trivial
  | n + 1, ρ, S, h => by
    unfold PV.whN
    refine Pv.bind (hc ρ S h) fun t S1 h1 => ?_
    try dsimp only
    split
    · refine Pv.bind (hf ρ S1 h1) fun fl S2 h2 => ?_
      cases fl with
      | nx ρ' => exact Pv.whN hc hf n ρ' S2 h2
      | ct ρ' => exact Pv.whN hc hf n ρ' S2 h2
      | bk ρ' => exact h2
      | rt v => exact h2
    · exact h1
theorem Pv.wh {c : Env → Sto → R Bool} {f : Env → Sto → R Fl} (hc : ∀ ρ S, Cl b S → Pv b (c ρ S)) (hf : ∀ ρ S, Cl b S → Pv b (f ρ S)) (ρ : Env) (S : Sto) (h : Cl b S) : Pv b (wh c f ρ S) := by
  unfold PV.wh
  split
  · exact Pv.whN hc hf _ ρ S h
  · trivial
theorem keeps {c : Ctx} (hc : ∀ f vs S, Cl b S → Pv b (c.call f vs S)) (hb : b ≤ c.base) : ∀ e : E, Keeps b (sem c e) := by
  intro e
  induction e with
  | nil =>
    exact ⟨fun _ _ _ => trivial, fun _ _ h => h, fun _ _ h => h, fun _ _ _ => trivial, fun _ _ _ => trivial⟩
  | cons x y ix iy =>
    exact ⟨fun _ _ _ => trivial, fun _ _ _ => trivial, fun ρ S h => Pv.bind (ix.ev ρ S h) fun _ S h => Pv.bind (iy.es ρ S h) fun _ _ h => h, fun _ _ _ => trivial, fun _ _ _ => trivial⟩
  | var i =>
    exact .of fun ρ S h => by
      try dsimp only
      split
      · exact h
      · trivial
  | num _ =>
    exact .of fun _ _ h => h
  | cs _ =>
    exact .of fun _ _ h => h
  | cb _ =>
    exact .of fun _ _ h => h
  | cn =>
    exact .of fun _ _ h => h
  | glob _ =>
    exact .of fun _ _ h => Pv.lft h
  | tup _ i =>
    exact .of fun ρ S h => Pv.bind (i.es ρ S h) fun _ _ h => h
  | lst _ i =>
    exact .of fun ρ S h => Pv.bind (i.es ρ S h) fun _ _ h => h.push _
  | dict =>
    exact .of fun ρ S h => h.push _
  | disp _ =>
    exact .of fun ρ S h => h.push _
  | bin _ _ _ ia ib =>
    exact .of fun ρ S h => Pv.bind (ia.ev ρ S h) fun _ S h => Pv.bind (ib.ev ρ S h) fun _ _ h => Pv.binD h
  | neg _ ia =>
    exact .of fun ρ S h => Pv.bind (ia.ev ρ S h) fun _ S h => by
      try dsimp only
      split
      · exact h
      · trivial
  | not _ ia =>
    exact .ofTe (fun ρ S h => Pv.bind (ia.ev ρ S h) fun _ S h => Pv.bind (Pv.lft h) fun _ _ h => h) fun ρ S h => Pv.bind (ia.te ρ S h) fun _ _ h => h
  | cmp _ _ _ ia ib =>
    exact .of fun ρ S h => Pv.bind (ia.ev ρ S h) fun _ S h => Pv.bind (ib.ev ρ S h) fun _ _ h => Pv.bind (Pv.lft h) fun _ _ h => h
  | chain _ _ _ _ _ ia ib ic =>
    exact .of fun ρ S h => Pv.bind (ia.ev ρ S h) fun _ S h => Pv.bind (ib.ev ρ S h) fun _ _ h => Pv.bind (Pv.lft h) fun _ S h => by
      try dsimp only
      split
      · exact Pv.bind (ic.ev ρ S h) fun _ _ h => Pv.bind (Pv.lft h) fun _ _ h => h
      · exact h
  | isN _ ia =>
    exact .of fun ρ S h => Pv.bind (ia.ev ρ S h) fun _ _ h => h
  | notN _ ia =>
    exact .of fun ρ S h => Pv.bind (ia.ev ρ S h) fun _ _ h => h
  | and _ _ ia ib =>
    exact .ofTe (fun ρ S h => Pv.bind (ia.ev ρ S h) fun _ S h => by
      try dsimp only
      split
      · exact ib.ev ρ S h
      · exact h
      · trivial) fun ρ S h => Pv.bind (ia.te ρ S h) fun _ S h => by
      try dsimp only
      split
      · exact ib.te ρ S h
      · exact h
  | or _ _ ia ib =>
    exact .ofTe (fun ρ S h => Pv.bind (ia.ev ρ S h) fun _ S h => by
      try dsimp only
      split
      · exact ib.ev ρ S h
      · exact h
      · trivial) fun ρ S h => Pv.bind (ia.te ρ S h) fun _ S h => by
      try dsimp only
      split
      · exact h
      · exact ib.te ρ S h
  | ite _ _ _ it ia ib =>
    exact .ofTe (fun ρ S h => Pv.bind (it.te ρ S h) fun _ S h => by
      try dsimp only
      split
      · exact ia.ev ρ S h
      · exact ib.ev ρ S h) fun _ _ _ => trivial
  | call _ _ i =>
    exact .of fun ρ S h => Pv.bind (i.es ρ S h) fun _ S h => hc _ _ S h
  | bi _ _ i =>
    exact .of fun ρ S h => Pv.bind (i.es ρ S h) fun _ S h => Pv.biD h
  | listOf _ i =>
    exact .of fun ρ S h => Pv.bind (i.it ρ S h) fun _ S h => h.push _
  | tupOf _ i =>
    exact .of fun ρ S h => Pv.bind (i.il ρ S h) fun _ S h => h
  | sset _ i =>
    exact .of fun ρ S h => Pv.bind (i.ev ρ S h) fun _ S h => Pv.ssetD h
  | revT _ i =>
    exact .of fun ρ S h => Pv.bind (i.ev ρ S h) fun _ S h => Pv.revD h
  | isi _ _ i =>
    exact .of fun ρ S h => Pv.bind (i.ev ρ S h) fun _ S h => Pv.bind (Pv.lft h) fun _ S h => h
  | ix _ _ ia ib =>
    exact .of fun ρ S h => Pv.bind (ia.ev ρ S h) fun _ S h => Pv.bind (ib.ev ρ S h) fun _ S h => Pv.lft h
  | slice _ _ _ ia il ih =>
    exact .of fun ρ S h => Pv.bind (ia.ev ρ S h) fun _ S h => Pv.bind (Pv.bind (il.es ρ S h) fun _ S h => Pv.lft h) fun _ S h => Pv.bind (Pv.bind (ih.es ρ S h) fun _ S h => Pv.lft h) fun _ S h => Pv.sliceD h
  | comp _ _ _ _ ii ik ie =>
    exact .of fun ρ S h => Pv.bind (ii.it ρ S h) fun s S h => Pv.bind (Pv.compL (fun x S h => Pv.bind (Pv.lft h) fun ρ' S h => Pv.bind (ik.te ρ' S h) fun _ S h => by
      try dsimp only
      split
      · exact Pv.bind (ie.ev ρ' S h) fun _ _ h => h
      · exact h) s.items S h) fun _ _ h => h.push _
  | comp2 _ _ _ _ _ _ ii i2 ik ie =>
    exact .of fun ρ S h => Pv.bind (ii.it ρ S h) fun s S h => Pv.bind (Pv.flatL (fun x S h => Pv.bind (Pv.lft h) fun ρ1 S h => Pv.bind (i2.it ρ1 S h) fun s2 S h => Pv.compL (fun y S h => Pv.bind (Pv.lft h) fun ρ' S h => Pv.bind (ik.te ρ' S h) fun _ S h => by
      try dsimp only
      split
      · exact Pv.bind (ie.ev ρ' S h) fun _ _ h => h
      · exact h) s2.items S h) s.items S h) fun _ _ h => Pv.allocB h
  | meth _ _ _ io ie =>
    exact .of fun ρ S h => Pv.bind (io.ev ρ S h) fun _ S h => Pv.bind (Pv.lft h) fun _ S h => Pv.bind (ie.es ρ S h) fun _ S h => Pv.methD h hb
  | range1 _ i =>
    exact .ofIt fun ρ S h => Pv.bind (i.ev ρ S h) fun _ S h => Pv.lft h
  | range2 _ _ ia ib =>
    exact .ofIt fun ρ S h => Pv.bind (ia.ev ρ S h) fun _ S h => Pv.bind (ib.ev ρ S h) fun _ S h => Pv.lft h
  | rangeDn _ _ ia ib =>
    exact .ofIt fun ρ S h => Pv.bind (ia.ev ρ S h) fun _ S h => Pv.bind (ib.ev ρ S h) fun _ S h => Pv.lft h
  | zip _ _ ia ib =>
    exact .ofIt fun ρ S h => Pv.bind (ia.ev ρ S h) fun _ S h => Pv.bind (ib.ev ρ S h) fun _ S h => Pv.lft h
theorem keepsT {c : Ctx} (hc : ∀ f vs S, Cl b S → Pv b (c.call f vs S)) (hb : b ≤ c.base) : ∀ (t : T) (ρ : Env) (S : Sto), Cl b S → Pv b (exec c t ρ S) := by
  have kk := keeps hc hb
  intro t
  induction t with
  | skip =>
    exact fun ρ S h => h
  | seq x y ix iy =>
    exact fun ρ S h => Pv.bind (ix ρ S h) fun fl S h => by
      cases fl with
      | nx ρ' => exact iy ρ' S h
      | _ => exact h
  | set i e =>
    exact fun ρ S h => Pv.bind ((kk e).ev ρ S h) fun _ _ h => h
  | setT i e =>
    exact fun ρ S h => Pv.bind ((kk e).ev ρ S h) fun _ _ h => Pv.bind (Pv.lft h) fun _ _ h => h
  | setIx o i e =>
    exact fun ρ S h => Pv.bind ((kk e).ev ρ S h) fun _ S h => Pv.bind ((kk o).ev ρ S h) fun _ S h => Pv.bind ((kk i).ev ρ S h) fun _ S h => Pv.bind (Pv.setIxD h hb) fun _ _ h => h
  | aug i op e =>
    exact fun ρ S h => by
      unfold exec
      split
      · exact Pv.bind ((kk e).ev ρ S h) fun _ _ h => Pv.bind (Pv.augD h) fun _ _ h => h
      · trivial
  | augIx o i op e =>
    exact fun ρ S h => Pv.bind ((kk o).ev ρ S h) fun _ S h => Pv.bind ((kk i).ev ρ S h) fun _ S h => Pv.bind (Pv.lft h) fun _ S h => Pv.bind ((kk e).ev ρ S h) fun _ S h => Pv.bind (Pv.augD h) fun _ _ h => Pv.bind (Pv.setIxD h hb) fun _ _ h => h
  | ife t x y ix iy =>
    exact fun ρ S h => Pv.bind ((kk t).te ρ S h) fun t S h => by
      try dsimp only
      split
      · exact ix ρ S h
      · exact iy ρ S h
  | for_ t i x ix =>
    exact fun ρ S h => Pv.bind ((kk i).it ρ S h) fun s S h => Pv.forL (fun x ρ S h => Pv.bind (Pv.lft h) fun ρ' S h => ix ρ' S h) _ _ _ h
  | while_ t x ix =>
    exact fun ρ S h => Pv.wh (fun ρ S h => (kk t).te ρ S h) (fun ρ S h => ix ρ S h) ρ S h
  | ret e =>
    exact fun ρ S h => Pv.bind ((kk e).ev ρ S h) fun _ _ h => h
  | expr e =>
    exact fun ρ S h => Pv.bind ((kk e).ev ρ S h) fun _ _ h => h
  | brk =>
    exact fun ρ S h => h
  | cont =>
    exact fun ρ S h => h
theorem Cl.take {S : Sto} {n : Nat} (h : Cl b S) (hn : b ≤ n) : Cl b (S.take n) := by
  refine ⟨by rw [List.length_take]; have := h.1; omega, fun i ds hi e => h.2 i ds hi ?_⟩
  rw [List.getElem?_take_of_lt (by omega)] at e
  exact e
theorem Pv.leave {base : Nat} {v : D} {S : Sto} (h : Cl b S) (hb : b ≤ base) : Pv b (leave base v S) := by
  unfold PV.leave
  split
  · exact h.take hb
  · split
    · split
      · split
        · split
          · exact (h.take hb).push _
          · exact h
        · trivial
      · exact h
    · exact h
theorem keepsN {P : List Fn} {g : Nat → Option D} : ∀ (n f : Nat) (vs : List D) (S : Sto), Cl b S → Pv b (callN P g n f vs S)
  | 0, _, _, _, _ => trivial
  | n + 1, f, vs, S, h => by
    unfold callN
    split
    · trivial
    · split
      · refine Pv.bind (keepsT (c := ⟨callN P g n, S.length, g⟩) (fun f vs S h => keepsN n f vs S h) h.1 _ _ S h) fun fl S1 h1 => ?_
        cases fl with
        | nx _ => exact Pv.leave h1 h.1
        | rt v => exact Pv.leave h1 h.1
        | _ => trivial
      · trivial
end
end PV

namespace PV
open PySem PySem.Spec PyProof.Rows L2
section
variable {K : PySem.W.Frag} {m m' : List Addr} {H H' : Hp} {S S' : Sto}
mutual
theorem DV.low (b : Nat) : ∀ {v : V} {d : D}, DV K m H v d → d.low b = true → DV K (m.take b) H v d
  | _, _, .non, _ => .non
  | _, _, .bl b, _ => .bl b
  | _, _, .int i, _ => .int i
  | _, _, .str s h, _ => .str s h
  | _, _, .tup h t, e => .tup h (DVs.low b t (by simpa [D.low] using e))
  | _, _, .fls h t, e => .fls h (DVs.low b t (by simpa [D.low] using e))
  | _, _, .ctu h t, e => .ctu h (DVs.low b t (by simpa [D.low] using e))
  | _, _, .cdc h, _ => .cdc h
  | _, _, .ref h, e => .ref (by
      simp only [D.low, decide_eq_true_eq] at e
      rw [List.getElem?_take_of_lt e]; exact h)
theorem DVs.low (b : Nat) : ∀ {vs : List V} {ds : List D}, DVs K m H vs ds → D.lows b ds = true → DVs K (m.take b) H vs ds
  | _, _, .nil, _ => .nil
  | _, _, .cons h t, e => by
    rw [D.lows, Bool.and_eq_true] at e
    exact .cons (DV.low b h e.1) (DVs.low b t e.2)
end
mutual
theorem DV.isLow : ∀ {v : V} {d : D}, DV K m H v d → d.low m.length = true
  | _, _, .non => rfl
  | _, _, .bl b => rfl
  | _, _, .int i => rfl
  | _, _, .str s h => rfl
  | _, _, .tup h t => by rw [D.low]; exact DVs.isLow t
  | _, _, .fls h t => by rw [D.low]; exact DVs.isLow t
  | _, _, .ctu h t => by rw [D.low]; exact DVs.isLow t
  | _, _, .cdc h => rfl
  | _, _, .ref h => by
    rw [D.low, decide_eq_true_eq]
    exact (List.getElem?_eq_some_iff.mp h).1
theorem DVs.isLow : ∀ {vs : List V} {ds : List D}, DVs K m H vs ds → D.lows m.length ds = true
  | _, _, .nil => rfl
  | _, _, .cons h t => by
    rw [D.lows, Bool.and_eq_true]
    exact ⟨DV.isLow h, DVs.isLow t⟩
end
theorem OV.isLow {a : Addr} {o : O} (h : OV K m H a o) : o.lows m.length = true := by
  have key : ∀ {κ : Type} {f : κ → D} {ks : List (κ × V)} {kvs : List (D × D)}, DKs K m H f ks kvs → (kvs.all fun p => p.2.low m.length) = true := fun {κ f ks kvs} h => by
    induction h with
    | nil => rfl
    | cons h t ih => rw [List.all_cons, ih, h.2.isLow]; rfl
  cases o with
  | lst ds => obtain ⟨xs, _, t⟩ := h; exact t.isLow
  | dic kvs => rcases h with ⟨ks, _, t⟩ | ⟨ks, _, t⟩ <;> exact key t
theorem OV.low (b : Nat) {a : Addr} {o : O} (h : OV K m H a o) (hl : o.lows b = true) : OV K (m.take b) H a o := by
  have key : ∀ {κ : Type} {f : κ → D} {ks : List (κ × V)} {kvs : List (D × D)}, DKs K m H f ks kvs → (kvs.all fun p => p.2.low b) = true → DKs K (m.take b) H f ks kvs := fun {κ f ks kvs} h => by
    induction h with
    | nil => exact fun _ => .nil
    | cons h t ih =>
      intro e
      rw [List.all_cons, Bool.and_eq_true] at e
      exact .cons ⟨h.1, h.2.low b e.1⟩ (ih e.2)
  cases o with
  | lst ds => obtain ⟨xs, e, t⟩ := h; exact ⟨xs, e, DVs.low b t hl⟩
  | dic kvs =>
    rcases h with ⟨ks, e, t⟩ | ⟨ks, e, t⟩
    · exact .inl ⟨ks, e, key t hl⟩
    · exact .inr ⟨ks, e, key t hl⟩
theorem opur_lows (b : Nat) {o : O} (h : o.pur = true) : o.lows b = true := by
  cases o with
  | lst ds => exact purs_lows b ds h
  | dic kvs =>
    show (kvs.all fun p => p.2.low b) = true
    rw [List.all_eq_true]
    intro p hp
    have := (List.all_eq_true.mp (show (kvs.all fun p => p.1.pur && p.2.pur) = true from h)) p hp
    rw [Bool.and_eq_true] at this
    exact pur_low b _ this.2
theorem Rl.cl (r : Rl K m S H) : Cl S.length S := by
  refine ⟨Nat.le_refl _, fun i o hi e => ?_⟩
  have hm : i < m.length := by rw [r.len]; exact hi
  have q := r.ob i m[i] _ (List.getElem?_eq_getElem hm) e
  rw [← r.len]
  exact OV.isLow q
theorem Gro.takeM (g : Gro m m' H H') : m'.take m.length = m := by
  obtain ⟨⟨t, rfl, _⟩, _, _⟩ := g
  simp
theorem Gro.same (g : Gro m m' H H') : Gro m m H H' := ⟨⟨[], by simp, by simp⟩, g.fr, g.dm⟩
/-- the frame's own objects are forgotten -/
theorem Rl.cut (r : Rl K m S H) (g : Gro m m' H H') (r' : Rl K m' S' H') (cl : Cl S.length S') : Rl K m (S'.take S.length) H' := by
  have hlen : (S'.take S.length).length = S.length := by rw [List.length_take]; have := cl.1; omega
  refine ⟨by rw [hlen, r.len], r.nd, fun i a o h1 h2 => ?_, r'.hb⟩
  have hi : i < S.length := by rw [← r.len]; exact (List.getElem?_eq_some_iff.mp h1).1
  rw [List.getElem?_take_of_lt hi] at h2
  have q := r'.ob i a o (g.get h1) h2
  have := OV.low S.length q (cl.2 i o hi h2)
  rw [← r.len, g.takeM] at this
  exact this
theorem leave_ok {Q : VK} {d : D} {v : V} (r : Rl K m S H) (g : Gro m m' H H') (r' : Rl K m' S' H') (cl : Cl S.length S') (hv : DV K m' H' v d) (c : Cont K (DV K) (leave S.length d S') m H Q) : Q v H' := by
  unfold leave at c
  have pureV : ∀ {v : V} {d : D}, DV K m' H' v d → d.pur = true → DV K m H' v d := fun {v d} hv hd => by
    have := DV.low m.length hv (pur_low _ d hd)
    rw [g.takeM] at this
    exact this
  split at c
  · rename_i hp
    exact c m H' v g.same (r.cut g r' cl) (pureV hv hp)
  · split at c
    · rename_i a _
      split at c
      · rename_i hb
        split at c
        · rename_i o e
          split at c
          · rename_i ho
            cases hv with
            | @ref A _ hm =>
              obtain ⟨⟨t, ht, hn⟩, f, dm⟩ := id g
              have hAt : A ∈ t := by
                subst ht
                rw [List.getElem?_append_right (by rw [r.len]; exact hb)] at hm
                exact List.mem_of_getElem? hm
              have hA : H A = none := hn A hAt
              have hAm : A ∉ m := fun h => by exact r.notN hA h
              have q := r'.ob a A o hm e
              have rc := r.cut g r' cl
              have hlen : (S'.take S.length).length = S.length := by rw [List.length_take]; have := cl.1; omega
              have q2 := OV.low m.length q (opur_lows _ ho)
              rw [g.takeM] at q2
              refine c (m ++ [A]) H' _ ⟨⟨[A], rfl, by simp [hA]⟩, f, dm⟩ (rc.plusO hAm q2) (.ref ?_)
              rw [List.getElem?_append_right (by rw [r.len]; exact Nat.le_refl _), r.len]
              simp
          · exact c m' H' v g r' hv
        · exact False.elim c
      · exact c m' H' v g r' hv
    · exact c m' H' v g r' hv
end
/-! ### the table of the functions -/
def fuelS : Nat := 100
structure FF (K : PySem.W.Frag) (mg : Str → Option Value) (C : CS) (P : List Fn) (i : Nat) (x : Str) (f : Addr) (qual : Str) (st : Stmt) (fd : FuncData) (N ps : List Str) (fn : Fn) : Prop where
  at_ : mg x = some (.ref f)
  fu : Fun K x qual st f fd
  sc : FnScope N ps (defScope st)
  bi : Binds K fd ps []
  hp : P[i]? = some fn
  np : fn.np = ps.length
  ns : fn.ns = N.length
  cs : cS fuelS C (defScope st) N (defBody st) = some fn.body
structure Hd (K : PySem.W.Frag) (mg : Str → Option Value) (w : World) (C : CS) (P : List Fn) (g : Nat → Option D) : Prop where
  kd : ∀ a, PySem.W.nsIn K mainGlobals "OBSTACLES" = some (some (.ref a)) → ∃ es n, KDict K w a es n
  blt : ∀ x ∈ bltNames, mg x = none
  consts : ∀ (k : Nat) (x : Str), C.consts[k]? = some x → ∃ u v d, mg x = some u ∧ RelV v u ∧ g k = some d ∧ ∀ m H, DV K m H v d
  fns : ∀ (i : Nat) (x : Str), C.fns[i]? = some x → ∃ f qual st fd N ps fn, FF K mg C P i x f qual st fd N ps fn
section
variable {prog : Program} {w : World} {K : PySem.W.Frag} {mg : Str → Option Value} {base : Heap} {C : CS} {P : List Fn} {g : Nat → Option D}
theorem start_env {m : List Addr} {H : Hp} {N : List Str} {vs : List V} {xs : List D} {a b : Nat} (h : DVs K m H vs xs) (ha : a = N.length) (hb : xs.length = b) : EnvR K m H (L2.start N vs) (xs.map some ++ List.replicate (a - b) none) := by
  have hl := h.length
  refine ⟨by unfold L2.start; simp; omega, fun i d hi => ?_⟩
  by_cases hx : i < xs.length
  · rw [List.getElem?_append_left (by simpa using hx), List.getElem?_map] at hi
    obtain ⟨d', h1, h2⟩ := Option.map_eq_some_iff.mp hi
    cases h2
    obtain ⟨v, h3, h4⟩ := h.get h1
    refine ⟨v, ?_, h4⟩
    unfold L2.start
    rw [List.getElem?_append_left (by simp; omega), List.getElem?_map, h3]
    rfl
  · rw [List.getElem?_append_right (by simpa using Nat.le_of_not_lt hx), List.getElem?_replicate] at hi
    split at hi <;> cases hi
theorem fnStep (hd : Hd K mg w C P g) {n i : Nat} {x qual : Str} {f : Addr} {st : Stmt} {fd : FuncData} {N ps : List Str} {fn : Fn} (ff : FF K mg C P i x f qual st fd N ps fn)
    (ih : ∀ (i : Nat) (x : Str), C.fns[i]? = some x → ∃ f fd ps, mg x = some (.ref f) ∧ PySem.W.keepIn K (.ref f) = true ∧ Binds K fd ps [] ∧ FnOk prog w K mg base CX0 n f fd ps fun vs H Q _ => rN K (callN P g n i) vs H Q) :
    FnOk prog w K mg base CX0 (n + 1) f fd ps fun vs H Q _ => rN K (callN P g (n + 1) i) vs H Q := by
  obtain ⟨h1, F, Sc, h4, h5, h6, h7, h8⟩ := ff
  refine F.ok (N := N) Sc (fun vs H Q E ⟨m, S, xs, r, h, c⟩ => ?_) fun cdv A outer s H vs Q E hr ⟨m, S, xs, r, h, c⟩ => ?_
  · unfold callN at c
    rw [h5] at c
    dsimp only at c
    split at c
    · rename_i hl
      rw [h.length, hl, h6]
    · exact False.elim c
  · unfold callN at c
    rw [h5] at c
    dsimp only at c
    split at c
    · rename_i hl
      have gd : Gd C ⟨callN P g n, S.length, g⟩ n (fun _ => true) (cxOf CX0 prog w K mg base N qual (defScope st) f cdv A outer s H E).nox :=
        ⟨rfl, Sc.nd, hr, fun _ => rfl, PassesOwn.never, hd.kd, hd.blt, ih, hd.consts⟩
      have kp := keepsT (b := S.length) (c := ⟨callN P g n, S.length, g⟩) (fun f vs S h => keepsN n f vs S h) (Nat.le_refl _) fn.body (xs.map some ++ List.replicate (fn.ns - fn.np) none) S r.cl
      cases hx : exec ⟨callN P g n, S.length, g⟩ fn.body (xs.map some ++ List.replicate (fn.ns - fn.np) none) S with
      | ok fl S1 =>
        rw [hx] at c kp
        refine ⟨_, soundS gd fuelS _ _ h8, m, S, _, r, start_env h h7 hl, ?_⟩
        rw [hx]
        intro m' H' cf G r' hf
        cases cf <;> cases fl <;> first | exact False.elim hf | exact False.elim c | skip
        · exact leave_ok r G r' kp .non c
        · exact leave_ok r G r' kp hf c
      | exc _ _ _ => rw [hx] at c; exact False.elim c
      | bad => rw [hx] at c; exact False.elim c
    · exact False.elim c
theorem fnsOk (hd : Hd K mg w C P g) : ∀ (n i : Nat) (x : Str), C.fns[i]? = some x → ∃ f fd ps, mg x = some (.ref f) ∧ PySem.W.keepIn K (.ref f) = true ∧ Binds K fd ps [] ∧
    FnOk prog w K mg base CX0 n f fd ps fun vs H Q _ => rN K (callN P g n i) vs H Q
  | 0, i, x, hx => by
    obtain ⟨f, qual, st, fd, N, ps, fn, ff⟩ := hd.fns i x hx
    exact ⟨f, fd, ps, ff.at_, ff.fu.kp, ff.bi, fun vs H Q E ⟨m, S, xs, r, h, c⟩ => False.elim c, fun A outer s H args us vs Q E _ _ _ _ ⟨m, S, xs, r, h, c⟩ => False.elim c⟩
  | n + 1, i, x, hx => by
    obtain ⟨f, qual, st, fd, N, ps, fn, ff⟩ := hd.fns i x hx
    exact ⟨f, fd, ps, ff.at_, ff.fu.kp, ff.bi, fnStep hd ff (fnsOk hd n)⟩
/-- the law's own promise, from the table -/
theorem fnTop (hd : Hd K mg w C P g) (n : Nat) {i : Nat} {x qual : Str} {f : Addr} {st : Stmt} {fd : FuncData} {N ps : List Str} {fn : Fn} (ff : FF K mg C P i x f qual st fd N ps fn) :
    FnOk prog w K mg base CX0 (n + 1) f fd ps fun vs H Q _ => rN K (callN P g (n + 1) i) vs H Q := fnStep hd ff (fnsOk hd n)
inductive Tab (K : PySem.W.Frag) (mg : Str → Option Value) (C : CS) (P : List Fn) : Nat → List Str → Prop
  | nil {n : Nat} : Tab K mg C P n []
  | cons {n : Nat} {x : Str} {xs : List Str} {f : Addr} {qual : Str} {st : Stmt} {fd : FuncData} {N ps : List Str} {fn : Fn} : FF K mg C P n x f qual st fd N ps fn → Tab K mg C P (n + 1) xs → Tab K mg C P n (x :: xs)
theorem Tab.get : ∀ {n : Nat} {xs : List Str}, Tab K mg C P n xs → ∀ (i : Nat) (x : Str), xs[i]? = some x → ∃ f qual st fd N ps fn, FF K mg C P (n + i) x f qual st fd N ps fn
  | _, _, .nil, _, _, h => by cases h
  | _, _, .cons ff _, 0, _, h => by cases h; exact ⟨_, _, _, _, _, _, _, ff⟩
  | n, _, .cons _ t, i + 1, x, h => by
    have q := Tab.get t i x h
    rw [show n + 1 + i = n + (i + 1) by omega] at q
    exact q
theorem Tab.fns (t : Tab K mg C P 0 C.fns) : ∀ (i : Nat) (x : Str), C.fns[i]? = some x → ∃ f qual st fd N ps fn, FF K mg C P i x f qual st fd N ps fn := fun i x h => by
  have q := t.get i x h
  rw [Nat.zero_add] at q
  exact q
/-- a def's row of the table, from what the top has left -/
theorem ffOf {i : Nat} {x : Str} {f : Addr} {st : Stmt} {N ps : List Str} {fn : Fn} {h : Heap} {oc : Value} {od an : Option Addr} {osl : Array (Option Value)} {kV doc pm cdv ct : Value} (X : K.In h) (G : h.Ns mainGlobals mg)
    (a : PySem.W.nsIn K mainGlobals x = some (some (.ref f))) (l : K.lookup f = some ⟨oc, od, .func (PySem.W.fnOf x x (defArgs st) (defBody st) (defScope st) .none kV doc pm an cdv ct), osl⟩) (c : PySem.W.codeIn K cdv x = true) (k : PySem.W.keepIn K (.ref f) = true)
    (sc : FnScope N ps (defScope st)) (hp : P[i]? = some fn) (np : fn.np = ps.length) (ns : fn.ns = N.length) (cs : cS fuelS C (defScope st) N (defBody st) = some fn.body)
    (b : ∀ (kV doc pm : Value) (an : Option Addr) (cdv ct : Value) (us : List Value), us.length = ps.length → bindArgs (PySem.W.fnOf x x (defArgs st) (defBody st) (defScope st) .none kV doc pm an cdv ct) ⟨us, []⟩ = pure (ps.zip us)) :
    FF K mg C P i x f x st (PySem.W.fnOf x x (defArgs st) (defBody st) (defScope st) .none kV doc pm an cdv ct) N ps fn :=
  ⟨PySem.W.mg_of X G a, fun_mk l c k, sc, (fun_mk l c k).binds b, hp, np, ns, cs⟩
/-- a dict of texts that stands written -/
inductive Ents : List DictEntry → List (Str × Str) → Prop
  | nil : Ents [] []
  | cons {h : Int} {k v : Str} {t u : Tok} {es : List DictEntry} {kvs : List (Str × Str)} : v.length ≤ sizeMax ∧ PySem.PyData.strOk v = true → Ents es kvs → Ents (⟨h, .str k t, .str v u⟩ :: es) ((k, v) :: kvs)
theorem Ents.find : ∀ {es : List DictEntry} {kvs : List (Str × Str)}, Ents es kvs → ∀ z : Str, ∃ r, (match es.find? (·.key.isStr z) with
      | some e => some (some e.val)
      | none => if es.any (·.refKey) then none else some none) = some r ∧ (match kvs.find? fun p => p.1 == z with
    | some p => (∃ t, r = some (.str p.2 t)) ∧ p.2.length ≤ sizeMax ∧ PySem.PyData.strOk p.2 = true
    | none => r = none)
  | _, _, .nil, z => ⟨none, rfl, rfl⟩
  | _, _, @Ents.cons h k v t u es kvs hv e, z => by
    obtain ⟨r, h1, h2⟩ := Ents.find e z
    have hk : (⟨h, .str k t, .str v u⟩ : DictEntry).key.isStr z = (k == z) := rfl
    rw [List.find?_cons, List.find?_cons, hk]
    cases hz : k == z with
    | true => exact ⟨_, rfl, ⟨u, rfl⟩, hv⟩
    | false =>
      refine ⟨r, ?_, h2⟩
      rw [← h1]
      dsimp only
      cases es.find? (·.key.isStr z) with
      | some _ => rfl
      | none =>
        dsimp only
        rw [List.any_cons]
        rfl
theorem cd_of {a : Addr} {es : Array DictEntry} {n : Nat} {od : Option Addr} {sl : Array (Option Value)} {kvs : List (Str × Str)} (h : PySem.W.nsIn K mainGlobals "OBSTACLES" = some (some (.ref a))) (l : K.lookup a = some ⟨.type "dict", od, .dict es n, sl⟩) (e : Ents es.toList kvs) : CD K a kvs := by
  refine ⟨h, fun z => ?_⟩
  obtain ⟨r, h1, h2⟩ := e.find z
  refine ⟨r, ?_, h2⟩
  unfold PySem.W.nsIn
  rw [l]
  exact h1
/-- the law's call over the script -/
theorem top_sp {n i : Nat} (hl : ∀ ns : List Int, ns.length ≤ 63 → ∃ S, callN P g n i [.fls (ns.map .int)] [] = .ok (.bl true) S) : ∀ (K : PySem.W.Frag) (H : Hp) (a : Addr) (ns : List Int), ns.length ≤ 63 → Only H → SqL K H a (ns.map V.int) →
    rN K (callN P g n i) [.ref a] H (fun v _ => v = .bl true) := by
  intro K H a ns hn ho hs
  obtain ⟨S, e⟩ := hl ns hn
  have dv : ∀ ns : List Int, DVs K [] H (ns.map V.int) (ns.map D.int) := fun ns => by
    induction ns with
    | nil => exact .nil
    | cons x xs ih => exact .cons (.int x) ih
  refine ⟨[], [], [.fls (ns.map D.int)], ⟨rfl, List.nodup_nil, fun i a o h => (by cases h), fun b o h => ?_⟩, .cons (.fls ?_ (dv ns)) .nil, ?_⟩
  · rcases ho b with h' | ⟨o', xs, h'⟩
    · rw [h'] at h; cases h
    · rw [h'] at h; cases h; trivial
  · rcases hs with (h | ⟨o, h⟩) | h
    · rcases ho a with h' | ⟨o', xs, h'⟩
      · rw [h'] at h; cases h
      · rw [h'] at h; cases h
    · exact .inl ⟨o, h, by rw [List.length_map, sizeLine_eq]; omega⟩
    · exact .inr h
  · rw [e]
    intro m' H' b _ _ hv
    cases hv
    rfl
end
end PV

namespace PV
open PySem
/-! ### runs that answer -/
@[irreducible] def W {α : Type} (r : R α) (Q : α → Sto → Prop) : Prop := match r with
  | .ok a S => Q a S
  | _ => False
section
variable {α β : Type} {Q Q' : α → Sto → Prop}
@[simp] theorem W_ok (a : α) (S : Sto) : W (.ok a S) Q = Q a S := by unfold W; rfl
@[simp] theorem W_exc (c : String) (xs : List D) (S : Sto) : W (.exc c xs S : R α) Q = False := by unfold W; rfl
@[simp] theorem W_bad : W (.bad : R α) Q = False := by unfold W; rfl
@[simp] theorem W_bind (r : R β) (f : β → Sto → R α) : W (r.bind f) Q = W r fun b S => W (f b S) Q := by
  cases r with
  | ok a S => rw [R.bind_ok, W_ok]
  | exc _ _ _ => rw [R.bind_exc, W_exc, W_exc]
  | bad => rw [R.bind_bad, W_bad, W_bad]
theorem W_okI {a : α} {S : Sto} (h : Q a S) : W (.ok a S) Q := by rw [W_ok]; exact h
theorem W.mono {r : R α} (h : W r Q) (f : ∀ a S, Q a S → Q' a S) : W r Q' := by
  cases r with
  | ok a S => rw [W_ok] at h ⊢; exact f a S h
  | exc _ _ _ => rw [W_exc] at h; exact h.elim
  | bad => rw [W_bad] at h; exact h.elim
theorem W_if {p : Prop} [Decidable p] {a b : R α} (h1 : p → W a Q) (h2 : ¬ p → W b Q) : W (if p then a else b) Q := by
  by_cases h : p
  · rw [if_pos h]; exact h1 h
  · rw [if_neg h]; exact h2 h
theorem W.get {r : R α} (h : W r Q) : ∃ a S, r = .ok a S ∧ Q a S := by
  cases r with
  | ok a S => rw [W_ok] at h; exact ⟨a, S, rfl, h⟩
  | exc _ _ _ => rw [W_exc] at h; exact h.elim
  | bad => rw [W_bad] at h; exact h.elim
end
def Fin (b : Nat) (Q : D → Sto → Prop) (fl : Fl) (S : Sto) : Prop := match fl with
  | .nx _ => W (leave b .non S) Q
  | .rt v => W (leave b v S) Q
  | _ => False
theorem W_call {P : List Fn} {g : Nat → Option D} {n f np ns : Nat} {body : T} {vs : List D} {S : Sto} {Q : D → Sto → Prop} (h : P[f]? = some ⟨np, ns, body⟩) (hl : vs.length = np)
    (hb : W (exec ⟨callN P g n, S.length, g⟩ body (vs.map some ++ List.replicate (ns - np) none) S) (Fin S.length Q)) : W (callN P g (n + 1) f vs S) Q := by
  unfold callN
  rw [h]
  dsimp only
  rw [if_pos hl, W_bind]
  refine hb.mono fun fl S' q => ?_
  cases fl <;> first | exact q | exact q.elim
theorem leave_pur {b : Nat} {v : D} {S : Sto} (h : v.pur = true) : leave b v S = .ok v (S.take b) := by
  unfold leave
  rw [if_pos h]
theorem leave_new {b a : Nat} {S : Sto} {o : O} (h : b ≤ a) (e : S[a]? = some o) (hp : o.pur = true) : leave b (.ref a) S = .ok (.ref b) (S.take b ++ [o]) := by
  unfold leave
  rw [if_neg (by simp [D.pur])]
  dsimp only
  rw [if_pos h, e]
  dsimp only
  rw [if_pos hp]
theorem leave_ref {b a : Nat} {S : Sto} {o : O} (h : b ≤ a) (e : S[a]? = some o) (hp : o.pur = false) : leave b (.ref a) S = .ok (.ref a) S := by
  unfold leave
  rw [if_neg (by simp [D.pur])]
  dsimp only
  rw [if_pos h, e]
  dsimp only
  rw [if_neg (by simp [hp])]
/-! ### loops -/
theorem W_for {w : List (Nat × List D)} {step : D → Env → Sto → R Fl} {xs : List D} {Q : Fl → Sto → Prop} (I : List D → Env → Sto → Prop) {ρ : Env} {S : Sto} (h0 : I [] ρ S) (hgood : ∀ dn ρ S, I dn ρ S → Src.good w S)
    (hstep : ∀ dn x rest ρ S, xs = dn ++ x :: rest → I dn ρ S → W (step x ρ S) fun fl S' => match fl with
      | .nx ρ' => I (dn ++ [x]) ρ' S'
      | .ct ρ' => I (dn ++ [x]) ρ' S'
      | .bk ρ' => Q (.nx ρ') S'
      | .rt v => Q (.rt v) S')
    (hend : ∀ ρ S, I xs ρ S → Q (.nx ρ) S) : W (forL w step xs ρ S) Q := by
  have key : ∀ (rest dn : List D) (ρ : Env) (S : Sto), xs = dn ++ rest → I dn ρ S → W (forL w step rest ρ S) Q := by
    intro rest
    induction rest with
    | nil =>
      intro dn ρ S e hi
      rw [List.append_nil] at e
      subst e
      unfold forL
      rw [if_pos (hgood _ _ _ hi)]
      exact W_okI (hend _ _ hi)
    | cons x rest ih =>
      intro dn ρ S e hi
      unfold forL
      rw [if_pos (hgood _ _ _ hi), W_bind]
      refine (hstep dn x rest ρ S e hi).mono fun fl S' q => ?_
      cases fl with
      | nx ρ' => exact ih (dn ++ [x]) ρ' S' (by rw [e]; simp) q
      | ct ρ' => exact ih (dn ++ [x]) ρ' S' (by rw [e]; simp) q
      | bk ρ' => exact W_okI q
      | rt v => exact W_okI q
  exact key xs [] ρ S rfl h0
/-- over a mapped row -/
theorem W_forM {α : Type} {w : List (Nat × List D)} {step : D → Env → Sto → R Fl} {f : α → D} {xs : List α} {Q : Fl → Sto → Prop} (I : List α → Env → Sto → Prop) {ρ : Env} {S : Sto} (h0 : I [] ρ S) (hgood : ∀ dn ρ S, I dn ρ S → Src.good w S)
    (hstep : ∀ dn x rest ρ S, xs = dn ++ x :: rest → I dn ρ S → W (step (f x) ρ S) fun fl S' => match fl with
      | .nx ρ' => I (dn ++ [x]) ρ' S'
      | .ct ρ' => I (dn ++ [x]) ρ' S'
      | .bk ρ' => Q (.nx ρ') S'
      | .rt v => Q (.rt v) S')
    (hend : ∀ ρ S, I xs ρ S → Q (.nx ρ) S) : W (forL w step (xs.map f) ρ S) Q := by
  have key : ∀ (rest dn : List α) (ρ : Env) (S : Sto), xs = dn ++ rest → I dn ρ S → W (forL w step (rest.map f) ρ S) Q := by
    intro rest
    induction rest with
    | nil =>
      intro dn ρ S e hi
      rw [List.append_nil] at e
      subst e
      unfold forL
      rw [List.map_nil]
      dsimp only
      rw [if_pos (hgood _ _ _ hi)]
      exact W_okI (hend _ _ hi)
    | cons x rest ih =>
      intro dn ρ S e hi
      rw [List.map_cons]
      unfold forL
      rw [if_pos (hgood _ _ _ hi), W_bind]
      refine (hstep dn x rest ρ S e hi).mono fun fl S' q => ?_
      cases fl with
      | nx ρ' => exact ih (dn ++ [x]) ρ' S' (by rw [e]; simp) q
      | ct ρ' => exact ih (dn ++ [x]) ρ' S' (by rw [e]; simp) q
      | bk ρ' => exact W_okI q
      | rt v => exact W_okI q
  exact key xs [] ρ S rfl h0
theorem compL_opt {w : List (Nat × List D)} {step : D → Sto → R (Option D)} (f : D → Option D) {xs : List D} {S : Sto} (hg : Src.good w S) (h : ∀ x ∈ xs, step x S = .ok (f x) S) : compL w step xs S = .ok (xs.filterMap f) S := by
  induction xs with
  | nil => unfold compL; rw [if_pos hg]; rfl
  | cons x xs ih =>
    unfold compL
    rw [if_pos hg, h x List.mem_cons_self, R.bind_ok, ih fun y hy => h y (List.mem_cons_of_mem _ hy), R.bind_ok]
    cases e : f x <;> simp [List.filterMap_cons, e]
theorem compL_map {w : List (Nat × List D)} {step : D → Sto → R (Option D)} (f : D → D) {xs : List D} {S : Sto} (hg : Src.good w S) (h : ∀ x ∈ xs, step x S = .ok (some (f x)) S) : compL w step xs S = .ok (xs.map f) S := by
  rw [compL_opt (fun x => some (f x)) hg h]
  congr 1
  induction xs with
  | nil => rfl
  | cons x xs ih => rw [List.filterMap_cons, List.map_cons, ih fun y hy => h y (List.mem_cons_of_mem _ hy)]
theorem compL_mapF {α : Type} {w : List (Nat × List D)} {step : D → Sto → R (Option D)} {k : α → D} (f : α → D) {xs : List α} {S : Sto} (hg : Src.good w S) (h : ∀ x ∈ xs, step (k x) S = .ok (some (f x)) S) : compL w step (xs.map k) S = .ok (xs.map f) S := by
  induction xs with
  | nil => unfold compL; rw [List.map_nil]; dsimp only; rw [if_pos hg]; rfl
  | cons x xs ih =>
    rw [List.map_cons]
    unfold compL
    rw [if_pos hg, h x List.mem_cons_self, R.bind_ok, ih fun y hy => h y (List.mem_cons_of_mem _ hy), R.bind_ok]
    rfl
theorem compL_fil {α : Type} {w : List (Nat × List D)} {step : D → Sto → R (Option D)} {k : α → D} (p : α → Bool) (f : α → D) {xs : List α} {S : Sto} (hg : Src.good w S) (h : ∀ x ∈ xs, step (k x) S = .ok (if p x then some (f x) else none) S) : compL w step (xs.map k) S = .ok ((xs.filter p).map f) S := by
  induction xs with
  | nil => unfold compL; rw [List.map_nil]; dsimp only; rw [if_pos hg]; rfl
  | cons x xs ih =>
    rw [List.map_cons]
    unfold compL
    rw [if_pos hg, h x List.mem_cons_self, R.bind_ok, ih fun y hy => h y (List.mem_cons_of_mem _ hy), R.bind_ok, List.filter_cons]
    cases p x <;> rfl
theorem W_compM {α : Type} {w : List (Nat × List D)} {step : D → Sto → R (Option D)} {k : α → D} (f : α → D) {xs : List α} {S : Sto} {Q : List D → Sto → Prop} (hg : Src.good w S) (h : ∀ x ∈ xs, step (k x) S = .ok (some (f x)) S) (q : Q (xs.map f) S) : W (compL w step (xs.map k) S) Q := by
  rw [compL_mapF f hg h]
  exact W_okI q
theorem W_compF {α : Type} {w : List (Nat × List D)} {step : D → Sto → R (Option D)} {k : α → D} (p : α → Bool) (f : α → D) {xs : List α} {S : Sto} {Q : List D → Sto → Prop} (hg : Src.good w S) (h : ∀ x ∈ xs, step (k x) S = .ok (if p x then some (f x) else none) S) (q : Q ((xs.filter p).map f) S) : W (compL w step (xs.map k) S) Q := by
  rw [compL_fil p f hg h]
  exact W_okI q
theorem flatL_mapF {α : Type} {w : List (Nat × List D)} {step : D → Sto → R (List D)} {k : α → D} (f : α → List D) {xs : List α} {S : Sto} (hg : Src.good w S) (h : ∀ x ∈ xs, step (k x) S = .ok (f x) S) : flatL w step (xs.map k) S = .ok (xs.flatMap f) S := by
  induction xs with
  | nil => unfold flatL; rw [List.map_nil]; dsimp only; rw [if_pos hg]; rfl
  | cons x xs ih =>
    rw [List.map_cons]
    unfold flatL
    rw [if_pos hg, h x List.mem_cons_self, R.bind_ok, ih fun y hy => h y (List.mem_cons_of_mem _ hy), R.bind_ok]
    rfl
theorem W_flatM {α : Type} {w : List (Nat × List D)} {step : D → Sto → R (List D)} {k : α → D} (f : α → List D) {xs : List α} {S : Sto} {Q : List D → Sto → Prop} (hg : Src.good w S) (h : ∀ x ∈ xs, step (k x) S = .ok (f x) S) (q : Q (xs.flatMap f) S) : W (flatL w step (xs.map k) S) Q := by
  rw [flatL_mapF f hg h]
  exact W_okI q
theorem W_allocB {vs : List D} {S : Sto} {Q : D → Sto → Prop} (h : vs.length ≤ sizeMax) (q : Q (.ref S.length) (S ++ [.lst vs])) : W (allocB vs S) Q := by
  unfold allocB
  rw [if_pos h]
  exact W_okI q
/-- a comprehension whose turns may change the store -/
theorem W_comp {w : List (Nat × List D)} {step : D → Sto → R (Option D)} {xs : List D} {Q : List D → Sto → Prop} (I : List D → List D → Sto → Prop) {S : Sto} (h0 : I [] [] S) (hgood : ∀ dn acc S, I dn acc S → Src.good w S)
    (hstep : ∀ dn x rest acc S, xs = dn ++ x :: rest → I dn acc S → W (step x S) fun o S' => I (dn ++ [x]) (acc ++ o.toList) S') (hend : ∀ acc S, I xs acc S → Q acc S) : W (compL w step xs S) Q := by
  have key : ∀ (rest dn acc : List D) (S : Sto), xs = dn ++ rest → I dn acc S → W (compL w step rest S) fun vs S' => I xs (acc ++ vs) S' := by
    intro rest
    induction rest with
    | nil =>
      intro dn acc S e hi
      rw [List.append_nil] at e
      subst e
      unfold compL
      rw [if_pos (hgood _ _ _ hi), W_ok, List.append_nil]
      exact hi
    | cons x rest ih =>
      intro dn acc S e hi
      unfold compL
      rw [if_pos (hgood _ _ _ hi), W_bind]
      refine (hstep dn x rest acc S e hi).mono fun o S' q => ?_
      rw [W_bind]
      refine (ih (dn ++ [x]) _ S' (by rw [e]; simp) q).mono fun r S'' q2 => ?_
      rw [W_ok]
      cases o with
      | none => simpa using q2
      | some v => simpa using q2
  exact (key xs [] [] S rfl h0).mono fun vs S' q => hend vs S' q
@[simp] theorem good_nil (S : Sto) : Src.good [] S := fun p hp => by cases hp
theorem good_one {a : Nat} {xs : List D} {S : Sto} (h : S[a]? = some (.lst xs)) : Src.good [(a, xs)] S := fun p hp => by
  cases List.mem_singleton.mp hp
  exact h
@[simp] theorem good_iff (a : Nat) (xs : List D) (S : Sto) : Src.good [(a, xs)] S ↔ S[a]? = some (.lst xs) := ⟨fun h => h (a, xs) List.mem_cons_self, good_one⟩
/-! ### the draws -/
def DS (cells : List Int) (a b s : Int) : Sto := [.lst (cells.map .int), .lst [.ref 0, .int a, .int b, .int s]]
end PV

namespace PV
open PySem
@[irreducible] def Nx (c : Ctx) (b : T) (Q : Fl → Sto → Prop) (fl : Fl) (S : Sto) : Prop := match fl with
  | .nx ρ => W (exec c b ρ S) Q
  | fl => Q fl S
@[irreducible] def Br (c : Ctx) (a b : T) (ρ : Env) (Q : Fl → Sto → Prop) (t : Bool) (S : Sto) : Prop := if t = true then W (exec c a ρ S) Q else W (exec c b ρ S) Q
section
variable {c : Ctx} {a b : T} {ρ : Env} {S : Sto} {Q : Fl → Sto → Prop}
theorem Nx_nx : Nx c b Q (.nx ρ) S = W (exec c b ρ S) Q := by unfold Nx; rfl
theorem Nx_rt {v : D} : Nx c b Q (.rt v) S = Q (.rt v) S := by unfold Nx; rfl
theorem Nx_bk : Nx c b Q (.bk ρ) S = Q (.bk ρ) S := by unfold Nx; rfl
theorem Nx_ct : Nx c b Q (.ct ρ) S = Q (.ct ρ) S := by unfold Nx; rfl
theorem Br_t : Br c a b ρ Q true S = W (exec c a ρ S) Q := by unfold Br; exact if_pos rfl
theorem Br_f : Br c a b ρ Q false S = W (exec c b ρ S) Q := by unfold Br; exact if_neg (by decide)
theorem Br_if {t : Bool} (h1 : t = true → W (exec c a ρ S) Q) (h2 : t = false → W (exec c b ρ S) Q) : Br c a b ρ Q t S := by
  cases t
  · rw [Br_f]; exact h2 rfl
  · rw [Br_t]; exact h1 rfl
theorem X_seq : W (exec c (.seq a b) ρ S) Q = W (exec c a ρ S) (Nx c b Q) := by
  show W ((exec c a ρ S).bind _) Q = _
  rw [W_bind]
  congr 1
  funext fl S
  cases fl with
  | nx ρ' => rw [Nx_nx]
  | rt v => rw [Nx_rt]; exact W_ok _ _
  | bk ρ' => rw [Nx_bk]; exact W_ok _ _
  | ct ρ' => rw [Nx_ct]; exact W_ok _ _
theorem X_skip : W (exec c .skip ρ S) Q = Q (.nx ρ) S := W_ok _ _
theorem X_set {i : Nat} {e : E} : W (exec c (.set i e) ρ S) Q = W ((sem c e).ev ρ S) fun x S => Q (.nx (ρ.set i (some x))) S := by
  show W ((eval c e ρ S).bind _) Q = _
  simp only [W_bind, W_ok]; try rfl
theorem X_setT {t : List Nat} {e : E} : W (exec c (.setT t e) ρ S) Q = W ((sem c e).ev ρ S) fun x S => W (lft (asg t x ρ) S) fun ρ' S => Q (.nx ρ') S := by
  show W ((eval c e ρ S).bind _) Q = _
  rw [W_bind]
  simp only [W_bind, W_ok]; try rfl
theorem X_setIx {o i e : E} : W (exec c (.setIx o i e) ρ S) Q = W ((sem c e).ev ρ S) fun v S => W ((sem c o).ev ρ S) fun x S => W ((sem c i).ev ρ S) fun k S => W (setIxD c.base x k v S) fun _ S => Q (.nx ρ) S := by
  show W ((eval c e ρ S).bind _) Q = _
  simp only [W_bind, W_ok]; try rfl
theorem X_augIx {o i e : E} {op : Bop} : W (exec c (.augIx o i op e) ρ S) Q = W ((sem c o).ev ρ S) fun x S => W ((sem c i).ev ρ S) fun k S => W (lft (lixD x k S) S) fun u S => W ((sem c e).ev ρ S) fun y S => W (augD op u y S) fun z S => W (setIxD c.base x k z S) fun _ S => Q (.nx ρ) S := by
  show W ((eval c o ρ S).bind _) Q = _
  simp only [W_bind, W_ok]; try rfl
theorem X_aug {i : Nat} {e : E} {op : Bop} {x : D} (h : ρ[i]? = some (some x)) : W (exec c (.aug i op e) ρ S) Q = W ((sem c e).ev ρ S) fun y S => W (augD op x y S) fun z S => Q (.nx (ρ.set i (some z))) S := by
  have : exec c (.aug i op e) ρ S = (eval c e ρ S).bind fun y S => (augD op x y S).bind fun z S => .ok (.nx (ρ.set i (some z))) S := by
    simp only [exec, h]
  rw [this]
  simp only [W_bind, W_ok]; try rfl
theorem X_ife {t : E} : W (exec c (.ife t a b) ρ S) Q = W ((sem c t).te ρ S) (Br c a b ρ Q) := by
  show W ((test c t ρ S).bind _) Q = _
  rw [W_bind]
  congr 1
  funext t S
  cases t
  · rw [Br_f]; rfl
  · rw [Br_t]; rfl
theorem X_ret {e : E} : W (exec c (.ret e) ρ S) Q = W ((sem c e).ev ρ S) fun x S => Q (.rt x) S := by
  show W ((eval c e ρ S).bind _) Q = _
  simp only [W_bind, W_ok]; try rfl
theorem X_expr {e : E} : W (exec c (.expr e) ρ S) Q = W ((sem c e).ev ρ S) fun _ S => Q (.nx ρ) S := by
  show W ((eval c e ρ S).bind _) Q = _
  simp only [W_bind, W_ok]; try rfl
/-- a loop's turn -/
noncomputable def Turn (c : Ctx) (t : List Nat) (b : T) : D → Env → Sto → R Fl := fun x ρ S => (lft (asg t x ρ) S).bind fun ρ' S => exec c b ρ' S
theorem X_for {t : List Nat} {i : E} : W (exec c (.for_ t i b) ρ S) Q = W ((sem c i).it ρ S) fun s S => W (forL s.watch (Turn c t b) s.items ρ S) Q := by
  show W ((iter c i ρ S).bind _) Q = _
  simp only [W_bind, W_ok]; try rfl
theorem W_turn1 {i : Nat} {x : D} : W (Turn c [i] b x ρ S) Q = W (exec c b (ρ.set i (some x)) S) Q := rfl
theorem X_brk : W (exec c .brk ρ S) Q = Q (.bk ρ) S := W_ok _ _
theorem X_cont : W (exec c .cont ρ S) Q = Q (.ct ρ) S := W_ok _ _
end
section
variable {c : Ctx} {a b : E} {ρ : Env} {S : Sto} {Q : D → Sto → Prop}
/-- a comprehension's turn -/
noncomputable def TurnC (c : Ctx) (t : List Nat) (k e : E) (ρ : Env) : D → Sto → R (Option D) := fun x S => (lft (asg t x (wipeE ρ t)) S).bind fun ρ' S =>
      ((sem c k).te ρ' S).bind fun b S => if b = true then ((sem c e).ev ρ' S).bind fun v S => .ok (some v) S else .ok none S
noncomputable def Turn2 (c : Ctx) (t : List Nat) (i2 : E) (t2 : List Nat) (k e : E) (ρ : Env) : D → Sto → R (List D) := fun x S => (lft (asg t x (wipeE ρ (t ++ t2))) S).bind fun ρ1 S =>
      ((sem c i2).it ρ1 S).bind fun s2 S => compL s2.watch (TurnC c t2 k e ρ1) s2.items S
theorem E_comp2 {t t2 : List Nat} {i i2 k e : E} : (sem c (.comp2 t i t2 i2 k e)).ev ρ S = ((sem c i).it ρ S).bind fun s S => (flatL s.watch (Turn2 c t i2 t2 k e ρ) s.items S).bind fun vs S => allocB vs S := rfl
theorem E_comp {t : List Nat} {i k e : E} : (sem c (.comp t i k e)).ev ρ S = ((sem c i).it ρ S).bind fun s S => (compL s.watch (TurnC c t k e ρ) s.items S).bind fun vs S => alloc (.lst vs) S := rfl
end
end PV
namespace PV
open PySem
section
variable {S : Sto} {i j : Int}
theorem v_lt : cmpD .lt (.int i) (.int j) S = some (decide (i < j)) := rfl
theorem v_gt : cmpD .gt (.int i) (.int j) S = some (decide (j < i)) := rfl
theorem v_le : cmpD .le (.int i) (.int j) S = some (!decide (j < i)) := rfl
theorem v_ge : cmpD .ge (.int i) (.int j) S = some (!decide (i < j)) := rfl
theorem v_eq : cmpD .eq (.int i) (.int j) S = some (i == j) := rfl
theorem v_ne : cmpD .ne (.int i) (.int j) S = some (!(i == j)) := rfl
theorem v_tb {b : Bool} : truthD (.bl b) S = some b := rfl
theorem v_subB {b : Bool} : binD .sub (.int i) (.bl b) S = .ok (.int (i - b2i b)) S := rfl
theorem v_addB {b : Bool} : binD .add (.int i) (.bl b) S = .ok (.int (i + b2i b)) S := rfl
theorem v_add : binD .add (.int i) (.int j) S = .ok (.int (i + j)) S := rfl
theorem v_sub : binD .sub (.int i) (.int j) S = .ok (.int (i - j)) S := rfl
theorem v_mulR (h : small j) : binD .mul (.int i) (.int j) S = .ok (.int (i * j)) S := if_pos (Or.inr h)
theorem v_mulL (h : small i) : binD .mul (.int i) (.int j) S = .ok (.int (i * j)) S := if_pos (Or.inl h)
theorem v_fdiv (h : 0 < j) (h' : j < 1073741824) : binD .fdiv (.int i) (.int j) S = .ok (.int (i / j)) S := by
  show (if j ≠ 0 ∧ j.natAbs < 1073741824 then R.ok (D.int (i.fdiv j)) S else .bad) = _
  rw [if_pos ⟨by omega, by omega⟩, Int.fdiv_eq_ediv_of_nonneg _ (by omega)]
theorem v_mod (h : 0 < j) : binD .mod (.int i) (.int j) S = .ok (.int (i % j)) S := by
  show (if j ≠ 0 then R.ok (D.int (i.fmod j)) S else .bad) = _
  rw [if_pos (by omega), Int.fmod_eq_emod_of_nonneg _ (by omega)]
theorem v_int : biD .int [.int i] S = .ok (.int i) S := rfl
theorem v_intb {b : Bool} : biD .int [.bl b] S = .ok (.int (b2i b)) S := rfl
theorem v_abs : biD .abs [.int i] S = .ok (.int (if i < 0 then -i else i)) S := rfl
theorem dicAt_none {y : D} {S : Sto} {ys : List D} (h : items y S = some ys) : dicAt y S = none := by
  cases y with
  | ref a =>
    unfold items at h
    dsimp only at h
    split at h
    · rename_i xs e
      show (match S[a]? with
        | some (.dic kvs) => some kvs
        | _ => none) = none
      rw [e]
    · cases h
  | _ => rfl
theorem inS_items {x y : D} {S : Sto} {ys : List D} (h : items y S = some ys) : inS x y = none := by
  cases y <;> first | (cases h; done) | (cases x <;> rfl)
theorem inD_items {x y : D} {S : Sto} {ys : List D} (h : items y S = some ys) : inD x y S = if x.pur && D.purs ys && decide (x.dep ≤ maxDep) && decide (D.deps ys ≤ maxDep) then some (ys.any fun z => z.eqv x) else none := by
  unfold inD
  rw [inS_items h, dicAt_none h, h]
theorem mtOk_l {a : Nat} {S : Sto} {xs : List D} (h : S[a]? = some (.lst xs)) : mtOk (.ref a) S = some () := by
  unfold mtOk
  dsimp only
  rw [h]
theorem v_lenL {a : Nat} {xs : List D} (h : S[a]? = some (.lst xs)) : biD .len [.ref a] S = .ok (.int xs.length) S := by
  simp only [biD, bi1, lenD, dicAt, items, h, Option.map_some, lft_some]
theorem v_lenT {xs : List D} : biD .len [.tup xs] S = .ok (.int xs.length) S := rfl
theorem v_lenF {xs : List D} : biD .len [.fls xs] S = .ok (.int xs.length) S := rfl
theorem ixN_of {n k : Nat} {i : Int} (h : i = (k : Int)) (hk : k < n) : ixN n i = some k := by
  subst h
  unfold ixN
  rw [if_pos (by omega), if_pos (by omega)]
  simp
theorem v_ixL {a k : Nat} {xs : List D} {d : D} (h : S[a]? = some (.lst xs)) (hi : i = (k : Int)) (hd : xs[k]? = some d) : ixD (.ref a) (.int i) S = some d := by
  simp only [ixD, h, atI]
  rw [ixN_of hi (List.getElem?_eq_some_iff.mp hd).1]
  exact hd
theorem v_lixL {a k : Nat} {xs : List D} {d : D} (h : S[a]? = some (.lst xs)) (hi : i = (k : Int)) (hd : xs[k]? = some d) : lixD (.ref a) (.int i) S = some d := by
  simp only [lixD, h, atI]
  rw [ixN_of hi (List.getElem?_eq_some_iff.mp hd).1]
  exact hd
theorem v_ixT {k : Nat} {xs : List D} {d : D} (hi : i = (k : Int)) (hd : xs[k]? = some d) : ixD (.tup xs) (.int i) S = some d := by
  simp only [ixD, atI]
  rw [ixN_of hi (List.getElem?_eq_some_iff.mp hd).1]
  exact hd
theorem v_set {base a k : Nat} {xs : List D} {d : D} (h : S[a]? = some (.lst xs)) (hi : i = (k : Int)) (hk : k < xs.length) (hp : okPut base a d = true) : setIxD base (.ref a) (.int i) d S = .ok () (S.set a (.lst (xs.set k d))) := by
  simp only [setIxD, h]
  rw [ixN_of hi hk]
  dsimp only
  rw [if_pos hp]
theorem v_app {base a : Nat} {xs : List D} {d : D} (h : S[a]? = some (.lst xs)) (hk : xs.length < sizeMax) (hp : okPut base a d = true) : methD base .append (.ref a) [d] S = .ok .non (S.set a (.lst (xs ++ [d]))) := by
  simp only [methD, h]
  rw [if_pos ⟨hp, hk⟩]
theorem v_aadd : augD .add (.int i) (.int j) S = .ok (.int (i + j)) S := rfl
theorem v_asub : augD .sub (.int i) (.int j) S = .ok (.int (i - j)) S := rfl
theorem okPut_int {base a : Nat} : okPut base a (.int i) = true := rfl
end
end PV

namespace PV
open PySem
local macro_rules
  | `(tactic| walk_at "ev") => `(tactic| simp only [X_seq, X_skip, X_set, X_setT, X_setIx, X_augIx, X_ife, X_ret, X_expr, X_for, X_brk, X_cont, sem, Mean.of, Mean.ofTe, Mean.ofIt, W_bind, W_ok, R.bind_ok, lft_some, List.map_cons, List.map_nil, List.replicate, List.cons_append, List.nil_append, Nat.reduceSub, List.getElem?_cons_zero, List.getElem?_cons_succ, List.set_cons_zero, List.set_cons_succ, List.length_cons, List.length_nil, v_lt, v_gt, v_le, v_ge, v_eq, v_ne, v_tb, v_add, v_sub, v_int, v_intb, v_abs, v_aadd, v_asub, okPut_int])
def tDraw2 : T := (.seq (.augIx (.var 0) (.num 1) .add (.num 1)) (.seq (.ife (.cmp .ge (.var 3) (.bin .mul (.num 2) (.bin .pow (.num 10) (.num 18)))) (.seq (.set 2 (.bin .mod (.bi .int (.cons (.bin .fdiv (.var 3) (.num 2)) .nil)) (.bin .shl (.num 1) (.num 6000)))) (.seq (.setIx (.var 0) (.num 2) (.bin .fdiv (.var 2) (.var 1))) (.seq (.ret (.bin .mod (.bi .int (.cons (.var 2) .nil)) (.var 1))) .skip))) .skip) (.seq (.setIx (.var 0) (.num 3) (.bin .mod (.bi .int (.cons (.bin .add (.bin .add (.bin .add (.bin .mul (.ix (.var 0) (.num 3)) (.num 48271)) (.bin .mul (.bin .mod (.bi .int (.cons (.var 3) .nil)) (.num 2147483629)) (.num 16807))) (.bin .mul (.ix (.var 0) (.num 1)) (.num 69621))) (.num 11)) .nil)) (.num 2147483647))) (.seq (.ret (.bin .mod (.bi .int (.cons (.bin .fdiv (.ix (.var 0) (.num 3)) (.num 16)) .nil)) (.var 1))) .skip))))
def tDraw : T := (.seq (.ife (.cmp .gt (.ix (.var 0) (.num 2)) (.num 0)) (.seq (.set 2 (.ix (.var 0) (.num 2))) (.seq (.setIx (.var 0) (.num 2) (.bin .fdiv (.var 2) (.var 1))) (.seq (.ret (.bin .mod (.bi .int (.cons (.var 2) .nil)) (.var 1))) .skip))) .skip) (.seq (.set 3 (.num 0)) (.seq (.ife (.cmp .lt (.ix (.var 0) (.num 1)) (.bi .len (.cons (.ix (.var 0) (.num 0)) .nil))) (.seq (.set 4 (.ix (.ix (.var 0) (.num 0)) (.ix (.var 0) (.num 1)))) (.seq (.set 3 (.bin .add (.bin .mul (.num 2) (.bi .abs (.cons (.var 4) .nil))) (.bi .int (.cons (.cmp .lt (.var 4) (.num 0)) .nil)))) .skip)) .skip) tDraw2)))

section
variable {cells : List Int} {L : Sto}
theorem ds_len {a b s : Int} : (DS cells a b s ++ L).length = 2 + L.length := by
  rw [List.length_append]
  rfl
theorem ds_0 {a b s : Int} : (DS cells a b s ++ L)[0]? = some (.lst (cells.map .int)) := rfl
theorem ds_1 {a b s : Int} : (DS cells a b s ++ L)[1]? = some (.lst [.ref 0, .int a, .int b, .int s]) := rfl
theorem ds_i0 {a b s : Int} : ixD (.ref 1) (.int 0) (DS cells a b s ++ L) = some (.ref 0) := v_ixL ds_1 (k := 0) rfl rfl
theorem ds_i1 {a b s : Int} : ixD (.ref 1) (.int 1) (DS cells a b s ++ L) = some (.int a) := v_ixL ds_1 (k := 1) rfl rfl
theorem ds_l1 {a b s : Int} : lixD (.ref 1) (.int 1) (DS cells a b s ++ L) = some (.int a) := v_lixL ds_1 (k := 1) rfl rfl
theorem ds_i2 {a b s : Int} : ixD (.ref 1) (.int 2) (DS cells a b s ++ L) = some (.int b) := v_ixL ds_1 (k := 2) rfl rfl
theorem ds_i3 {a b s : Int} : ixD (.ref 1) (.int 3) (DS cells a b s ++ L) = some (.int s) := v_ixL ds_1 (k := 3) rfl rfl
theorem ds_p1 {a b s x : Int} {base : Nat} : setIxD base (.ref 1) (.int 1) (.int x) (DS cells a b s ++ L) = .ok () (DS cells x b s ++ L) := v_set ds_1 (k := 1) rfl (by show 1 < 4; decide) rfl
theorem ds_p2 {a b s x : Int} {base : Nat} : setIxD base (.ref 1) (.int 2) (.int x) (DS cells a b s ++ L) = .ok () (DS cells a x s ++ L) := v_set ds_1 (k := 2) rfl (by show 2 < 4; decide) rfl
theorem ds_p3 {a b s x : Int} {base : Nat} : setIxD base (.ref 1) (.int 3) (.int x) (DS cells a b s ++ L) = .ok () (DS cells a b x ++ L) := v_set ds_1 (k := 3) rfl (by show 3 < 4; decide) rfl
def DrawQ (cells : List Int) (L : Sto) (many : Int) : D → Sto → Prop := fun v S' => ∃ r a' b' s', v = .int r ∧ 0 ≤ r ∧ r < many ∧ 0 ≤ a' ∧ 0 ≤ b' ∧ S' = DS cells a' b' s' ++ L
theorem draw_fin {a b s r many : Int} (hm : 0 < many) (h1 : 0 ≤ a) (h2 : 0 ≤ b) : Fin (2 + L.length) (DrawQ cells L many) (.rt (.int (r % many))) (DS cells a b s ++ L) := by
  show W (leave (2 + L.length) (.int (r % many)) (DS cells a b s ++ L)) (DrawQ cells L many)
  rw [leave_pur rfl, W_ok, ← ds_len (cells := cells) (L := L) (a := a) (b := b) (s := s), List.take_length]
  exact ⟨_, _, _, _, rfl, Int.emod_nonneg _ (by omega), Int.emod_lt_of_pos _ hm, h1, h2, rfl⟩
theorem draw_tail {P : List Fn} {g : Nat → Option D} {n : Nat} {a b s many z : Int} {o : Option D} (ha : 0 ≤ a) (hb : 0 ≤ b) (hm : 0 < many) (hm2 : many < 1073741824) (hz : 0 ≤ z) :
    W (exec ⟨callN P g n, 2 + L.length, g⟩ tDraw2 [some (.ref 1), some (.int many), none, some (.int z), o] (DS cells a b s ++ L)) (Fin (2 + L.length) (DrawQ cells L many)) := by
  simp only [tDraw2]
  walk_at "ev"
  rw [ds_l1]
  walk_at "ev"
  rw [ds_p1, W_ok, Nx_nx]
  walk_at "ev"
  have hp : ∀ S : Sto, binD .pow (.int 10) (.int 18) S = .ok (.int 1000000000000000000) S := fun S => by
    show (if (0 : Int) ≤ 18 ∧ (18 : Int) ≤ 1000000 ∧ small 10 then R.ok (D.int (10 ^ (18 : Int).toNat)) S else .bad) = _
    rw [if_pos ⟨by decide, by decide, by decide⟩]
    rfl
  have hs : ∀ S : Sto, binD .shl (.int 1) (.int 6000) S = .ok (.int (2 ^ 6000)) S := fun S => by
    show (if (0 : Int) ≤ 6000 ∧ (6000 : Int) ≤ 1000000 ∧ small 1 then R.ok (D.int (1 * 2 ^ (6000 : Int).toNat)) S else .bad) = _
    rw [if_pos ⟨by decide, by decide, by decide⟩, Int.one_mul]
    rfl
  have hbig : (0 : Int) < 2 ^ 6000 := Int.pow_pos (by decide)
  rw [hp]
  walk_at "ev"
  rw [v_mulL (by decide)]
  walk_at "ev"
  refine Br_if (fun hg => ?_) fun hg => ?_
  · walk_at "ev"
    rw [v_fdiv (by decide) (by decide)]
    walk_at "ev"
    rw [hs]
    walk_at "ev"
    rw [v_mod hbig, W_ok, Nx_nx]
    walk_at "ev"
    rw [v_fdiv hm hm2]
    walk_at "ev"
    rw [ds_p2]
    walk_at "ev"
    rw [Nx_nx]
    walk_at "ev"
    rw [v_mod hm]
    simp only [W_ok, Nx_rt]
    exact draw_fin hm (by omega) (Int.ediv_nonneg (Int.emod_nonneg _ (by omega)) (by omega))
  · walk_at "ev"
    rw [Nx_nx]
    walk_at "ev"
    rw [ds_i3]
    walk_at "ev"
    rw [v_mulR (by decide)]
    walk_at "ev"
    rw [v_mod (by decide)]
    walk_at "ev"
    rw [v_mulR (by decide)]
    walk_at "ev"
    rw [ds_i1]
    walk_at "ev"
    rw [v_mulR (by decide)]
    walk_at "ev"
    rw [v_mod (by decide)]
    walk_at "ev"
    rw [ds_p3]
    walk_at "ev"
    rw [Nx_nx]
    walk_at "ev"
    rw [ds_i3]
    walk_at "ev"
    rw [v_fdiv (by decide) (by decide)]
    walk_at "ev"
    rw [v_mod hm]
    simp only [W_ok, Nx_rt]
    exact draw_fin hm (by omega) hb
theorem draw_sp {P : List Fn} {g : Nat → Option D} {n f : Nat} (h : P[f]? = some ⟨2, 5, tDraw⟩) {a b s many : Int} (ha : 0 ≤ a) (hb : 0 ≤ b) (hm : 0 < many) (hm2 : many < 1073741824) :
    W (callN P g (n + 1) f [.ref 1, .int many] (DS cells a b s ++ L)) (DrawQ cells L many) := by
  refine W_call h rfl ?_
  simp only [tDraw, ds_len]
  walk_at "ev"
  rw [ds_i2]
  walk_at "ev"
  refine Br_if (fun hb0 => ?_) fun hb0 => ?_
  · walk_at "ev"
    rw [ds_i2]
    walk_at "ev"
    rw [Nx_nx]
    walk_at "ev"
    rw [v_fdiv hm hm2]
    walk_at "ev"
    rw [ds_p2]
    walk_at "ev"
    rw [Nx_nx]
    walk_at "ev"
    rw [v_mod hm]
    simp only [W_ok, Nx_rt]
    exact draw_fin hm ha (Int.ediv_nonneg hb (by omega))
  · walk_at "ev"
    rw [Nx_nx]
    walk_at "ev"
    rw [Nx_nx]
    walk_at "ev"
    rw [ds_i1]
    walk_at "ev"
    rw [ds_i0]
    walk_at "ev"
    rw [v_lenL ds_0]
    walk_at "ev"
    refine Br_if (fun hb1 => ?_) fun hb1 => ?_
    · have hlt : a < cells.length := by simpa using hb1
      obtain ⟨k, rfl⟩ : ∃ k : Nat, a = k := ⟨a.toNat, by omega⟩
      have hk : k < cells.length := by omega
      walk_at "ev"
      rw [ds_i0]
      walk_at "ev"
      rw [ds_i1]
      walk_at "ev"
      rw [v_ixL ds_0 rfl (show (cells.map D.int)[k]? = some (.int cells[k]) by rw [List.getElem?_map, List.getElem?_eq_getElem hk]; rfl)]
      walk_at "ev"
      rw [Nx_nx]
      walk_at "ev"
      rw [v_mulL (by decide)]
      walk_at "ev"
      rw [Nx_nx]
      walk_at "ev"
      rw [Nx_nx]
      refine draw_tail ha hb hm hm2 ?_
      unfold b2i
      split <;> split <;> omega
    · walk_at "ev"
      rw [Nx_nx]
      exact draw_tail ha hb hm hm2 (Int.le_refl _)
end
end PV


namespace PV
open PySem
theorem call_eq {P : List Fn} {g : Nat → Option D} {n f np ns : Nat} {body : T} {vs : List D} {S S2 : Sto} {v : D} (h : P[f]? = some ⟨np, ns, body⟩) (hl : vs.length = np)
    (hb : W (exec ⟨callN P g n, S.length, g⟩ body (vs.map some ++ List.replicate (ns - np) none) S) (Fin S.length fun v' S' => v' = v ∧ S' = S2)) : callN P g (n + 1) f vs S = .ok v S2 := by
  obtain ⟨v', S', e, h1, h2⟩ := (W_call (n := n) h hl hb).get
  rw [e, h1, h2]
theorem fin_pur {b : Nat} {v : D} {S' : Sto} {Q : D → Sto → Prop} (h : v.pur = true) (q : Q v (S'.take b)) : Fin b Q (.rt v) S' := by
  show W (leave b v S') Q
  rw [leave_pur h]
  exact W_okI q
theorem fin_new {b a : Nat} {S' : Sto} {o : O} {Q : D → Sto → Prop} (h : b ≤ a) (e : S'[a]? = some o) (hp : o.pur = true) (q : Q (.ref b) (S'.take b ++ [o])) : Fin b Q (.rt (.ref a)) S' := by
  show W (leave b (.ref a) S') Q
  rw [leave_new h e hp]
  exact W_okI q
theorem take_same (S : Sto) : S.take S.length = S := List.take_length
theorem take_self (S T : Sto) : (S ++ T).take S.length = S := List.take_left' rfl
theorem getL {S T : Sto} {a : Nat} {o : O} (h : S[a]? = some o) : (S ++ T)[a]? = some o := by
  rw [List.getElem?_append_left (List.getElem?_eq_some_iff.mp h).1]; exact h
theorem getN (S : Sto) (o : O) (T : Sto) : (S ++ o :: T)[S.length]? = some o := by
  rw [List.getElem?_append_right (Nat.le_refl _), Nat.sub_self]; rfl
theorem setN (S : Sto) (o o' : O) (T : Sto) : (S ++ o :: T).set S.length o' = S ++ o' :: T := by
  rw [List.set_append_right _ _ (Nat.le_refl _), Nat.sub_self]
  rfl
theorem okPut_pur {b a : Nat} {v : D} (h : v.pur = true) : okPut b a v = true := by unfold okPut; rw [h]; rfl
theorem ss_ref {a : Nat} {S : Sto} : srcS (.ref a) S = srcD (.ref a) S := rfl
theorem ss_tup {xs : List D} {S : Sto} : srcS (.tup xs) S = srcD (.tup xs) S := rfl
theorem ss_fls {xs : List D} {S : Sto} : srcS (.fls xs) S = srcD (.fls xs) S := rfl
theorem ss_str {z : Str} {S : Sto} : srcS (.str z) S = some ⟨signs z, []⟩ := rfl
theorem sr_tup' {xs : List D} {S : Sto} : srcD (.tup xs) S = some ⟨xs, []⟩ := rfl
theorem wipe1 {ρ : Env} {i : Nat} : wipeE ρ [i] = ρ.set i none := rfl
theorem asg1 {ρ : Env} {i : Nat} {x : D} : asg [i] x ρ = some (ρ.set i (some x)) := rfl
theorem W_alloc {o : O} {S : Sto} {Q : D → Sto → Prop} : W (alloc o S) Q = Q (.ref S.length) (S ++ [o]) := W_ok _ _
/-! ### tuples of ints, rows of them -/
def tI (l : List Int) : D := .tup (l.map .int)
theorem ss_tI {l : List Int} {S : Sto} : srcS (tI l) S = srcD (tI l) S := rfl
theorem purs_int : ∀ l : List Int, D.purs (l.map .int) = true
  | [] => rfl
  | x :: l => by rw [List.map_cons, D.purs, purs_int l]; rfl
theorem deps_int : ∀ l : List Int, D.deps (l.map .int) = 0
  | [] => rfl
  | x :: l => by rw [List.map_cons, D.deps, deps_int l]; rfl
theorem pur_tI (l : List Int) : (tI l).pur = true := purs_int l
theorem dep_tI (l : List Int) : (tI l).dep = 1 := by
  show D.deps _ + 1 = 1
  rw [deps_int]
theorem purs_all {α : Type} {f : α → D} (h : ∀ x, (f x).pur = true) : ∀ l : List α, D.purs (l.map f) = true
  | [] => rfl
  | x :: l => by rw [List.map_cons, D.purs, purs_all h l, h]; rfl
theorem deps_all {α : Type} {f : α → D} {k : Nat} (h : ∀ x, (f x).dep ≤ k) : ∀ l : List α, D.deps (l.map f) ≤ k
  | [] => Nat.zero_le _
  | x :: l => by rw [List.map_cons, D.deps]; exact Nat.max_le.mpr ⟨h x, deps_all h l⟩
theorem eqvs_int : ∀ l m : List Int, D.eqvs (l.map .int) (m.map .int) = decide (l = m)
  | [], [] => rfl
  | [], _ :: _ => rfl
  | _ :: _, [] => rfl
  | x :: l, y :: m => by
    rw [List.map_cons, List.map_cons, D.eqvs, eqvs_int l m]
    show (x == y && _) = _
    by_cases h : x = y <;> simp [h]
theorem eqv_tI (l m : List Int) : (tI l).eqv (tI m) = decide (l = m) := eqvs_int l m
theorem alks_int : ∀ l m : List Int, D.alks (l.map .int) (m.map .int) = true
  | [], [] => rfl
  | [], _ :: _ => rfl
  | _ :: _, [] => rfl
  | x :: l, y :: m => by rw [List.map_cons, List.map_cons, D.alks, alks_int l m]; rfl
theorem alk_tI (l m : List Int) : (tI l).alk (tI m) = true := alks_int l m
mutual
theorem eqv_self : ∀ d : D, d.pur = true → d.eqv d = true
  | .non, _ => rfl
  | .bl b, _ => by simp [D.eqv]
  | .int i, _ => by simp [D.eqv]
  | .str s, _ => by simp [D.eqv]
  | .tup xs, h => eqvs_self xs h
  | .fls _, h => by cases h
  | .ref _, h => by cases h
  | .ctu _, h => by cases h
  | .cdc _, h => by cases h
theorem eqvs_self : ∀ ds : List D, D.purs ds = true → D.eqvs ds ds = true
  | [], _ => rfl
  | d :: ds, h => by
    rw [D.purs, Bool.and_eq_true] at h
    rw [D.eqvs, eqv_self d h.1, eqvs_self ds h.2]
    rfl
end
theorem v_eqself {d : D} {S : Sto} (h : d.pur = true) (h2 : d.dep ≤ 40) : cmpD .eq d d S = some true := by
  have hp : plain d S = some d := by
    cases d <;> first | (simp only [plain, h, if_true]; done) | (cases h)
  have hd : depP d = d.dep := by cases d <;> first | rfl | (cases h)
  have he : eqP d d = d.eqv d := by cases d <;> first | rfl | (cases h)
  show eqD d d S = some true
  unfold eqD
  rw [hp]
  dsimp only
  rw [hd, if_pos ⟨h2, h2⟩, he, eqv_self d h]
theorem v_neself {d : D} {S : Sto} (h : d.pur = true) (h2 : d.dep ≤ 40) : cmpD .ne d d S = some false := by
  have := v_eqself (S := S) h h2
  show (eqD d d S).map _ = _
  rw [show eqD d d S = some true from this]
  rfl
theorem v_inI {x : Int} {l : List Int} {S : Sto} : cmpD .isin (.int x) (tI l) S = some (decide (x ∈ l)) := by
  show inD (.int x) (tI l) S = _
  rw [inD_items (show items (tI l) S = some (l.map .int) from rfl)]
  simp only [purs_int, deps_int]
  have : ((D.int x).pur && true && decide ((D.int x).dep ≤ maxDep) && decide (0 ≤ maxDep)) = true := rfl
  rw [if_pos this]
  congr 1
  induction l with
  | nil => rfl
  | cons y l ih =>
    rw [List.map_cons, List.any_cons, ih]
    show (y == x || _) = _
    by_cases h : y = x
    · simp [h]
    · have h' : x ≠ y := fun e => h e.symm
      simp [h, h']
theorem v_ninI {x : Int} {l : List Int} {S : Sto} : cmpD .notin (.int x) (tI l) S = some (!decide (x ∈ l)) := by
  have := v_inI (x := x) (l := l) (S := S)
  show (inD (.int x) (tI l) S).map _ = _
  rw [show inD (.int x) (tI l) S = _ from this]
  rfl
theorem v_inT {x : List Int} {ls : List (List Int)} {S : Sto} {d : D} (hd : items d S = some (ls.map tI)) : cmpD .isin (tI x) d S = some (decide (x ∈ ls)) := by
  show inD (tI x) d S = _
  rw [inD_items hd]
  have h1 : D.purs (ls.map tI) = true := purs_all pur_tI ls
  have h2 : D.deps (ls.map tI) ≤ 40 := Nat.le_trans (deps_all (k := 1) (fun x => by rw [dep_tI]; exact Nat.le_refl _) ls) (by decide)
  rw [if_pos (by rw [pur_tI, h1, dep_tI]; simp [maxDep, h2])]
  congr 1
  clear hd h1 h2
  induction ls with
  | nil => rfl
  | cons y l ih =>
    rw [List.map_cons, List.any_cons, ih, eqv_tI]
    by_cases h : y = x
    · simp [h]
    · have h' : x ≠ y := fun e => h e.symm
      simp [h, h']
theorem v_ninT {x : List Int} {ls : List (List Int)} {S : Sto} {d : D} (hd : items d S = some (ls.map tI)) : cmpD .notin (tI x) d S = some (!decide (x ∈ ls)) := by
  have := v_inT (x := x) hd
  show (inD (tI x) d S).map _ = _
  rw [show inD (tI x) d S = _ from this]
  rfl
def sortT (ls : List (List Int)) : List (List Int) := ls.mergeSort fun a b => (tI a).le (tI b)
theorem sorted_tI (ls : List (List Int)) : sorted (ls.map tI) = (sortT ls).map tI := by
  unfold sorted sortT
  exact (List.map_mergeSort (f := tI) (r := fun a b => (tI a).le (tI b)) (s := D.le) (l := ls) fun a _ b _ => rfl).symm
theorem mem_sortT {x : List Int} {ls : List (List Int)} : x ∈ sortT ls ↔ x ∈ ls := by
  unfold sortT
  exact List.mem_mergeSort
theorem sortable_tI (ls : List (List Int)) : sortable (ls.map tI) = true := by
  unfold sortable
  simp only [Bool.and_eq_true, decide_eq_true_eq, List.all_eq_true]
  refine ⟨⟨⟨purs_all pur_tI ls, ?_⟩, fun a ha b hb => ?_⟩, fun a ha => ?_⟩
  · exact Nat.le_trans (deps_all (k := 1) (fun x => by rw [dep_tI]; exact Nat.le_refl _) ls) (by decide)
  · obtain ⟨x, _, rfl⟩ := List.mem_map.mp ha
    obtain ⟨y, _, rfl⟩ := List.mem_map.mp hb
    exact alk_tI x y
  · obtain ⟨x, _, rfl⟩ := List.mem_map.mp ha
    rfl
theorem v_sorted {d : D} {ls : List (List Int)} {S : Sto} (hd : items d S = some (ls.map tI)) : biD .sorted [d] S = .ok (.ref S.length) (S ++ [.lst ((sortT ls).map tI)]) := by
  simp only [biD, bi1, dicAt_none hd]
  rw [hd, lft_some, R.bind_ok, if_pos (sortable_tI ls), sorted_tI]
  rfl
theorem it_ref {a : Nat} {xs : List D} {S : Sto} (h : S[a]? = some (.lst xs)) : items (.ref a) S = some xs := by
  simp only [items, h]
theorem sr_ref {a : Nat} {xs : List D} {S : Sto} (h : S[a]? = some (.lst xs)) : srcD (.ref a) S = some ⟨xs, [(a, xs)]⟩ := by
  simp only [srcD, h]
theorem v_tcat {xs ys : List D} {S : Sto} (h : xs.length + ys.length ≤ sizeMax) : binD .add (.tup xs) (.tup ys) S = .ok (.tup (xs ++ ys)) S := if_pos h
theorem sr_tI {l : List Int} {S : Sto} : srcD (tI l) S = some ⟨l.map .int, []⟩ := rfl
theorem v_lenI {l : List Int} {S : Sto} : biD .len [tI l] S = .ok (.int l.length) S := by
  rw [tI, v_lenT, List.length_map]
theorem v_snoc {l : List Int} {x : Int} {S : Sto} (h : l.length < 1000) : binD .add (tI l) (.tup [.int x]) S = .ok (tI (l ++ [x])) S := by
  rw [tI, v_tcat (by rw [List.length_map]; show l.length + 1 ≤ 16777216; omega), tI, List.map_append]
  rfl
theorem v_ixI {l : List Int} {i : Int} {k : Nat} {x : Int} {S : Sto} (h : i = (k : Int)) (hx : l[k]? = some x) : ixD (tI l) (.int i) S = some (.int x) :=
  v_ixT h (by rw [List.getElem?_map, hx]; rfl)
theorem v_lcat {a b : Nat} {xs ys : List D} {S : Sto} (h1 : S[a]? = some (.lst xs)) (h2 : S[b]? = some (.lst ys)) (h : xs.length + ys.length ≤ sizeMax) : binD .add (.ref a) (.ref b) S = .ok (.ref S.length) (S ++ [.lst (xs ++ ys)]) := by
  show catL a b S = _
  unfold catL
  rw [h1, h2]
  exact if_pos h
theorem all_true {α : Type} {S : Sto} {a : Nat} {ls : List α} {f : α → D} (p : α → Bool) (h : S[a]? = some (.lst (ls.map f))) (hf : ∀ x ∈ ls, f x = .bl (p x)) : biD .all [.ref a] S = .ok (.bl (ls.all p)) S := by
  have hb : bools (ls.map f) = some (ls.map p) := by
    clear h
    induction ls with
    | nil => rfl
    | cons x l ih =>
      rw [List.map_cons, hf x List.mem_cons_self]
      show (bools (l.map f)).map _ = _
      rw [ih fun y hy => hf y (List.mem_cons_of_mem _ hy)]
      rfl
  show lft ((lstItems (.ref a) S).bind _) S = _
  simp only [lstItems, h, Option.bind_some, hb, Option.map_some, lft_some, List.all_map]
  rfl
def rI (m : Nat) : List Int := (List.range m).map fun (k : Nat) => (k : Int)
theorem v_range {m : Nat} (h : m ≤ 1000) : rangeSrc (.int 0) (.int m) = some ⟨(rI m).map .int, []⟩ := by
  unfold rangeSrc
  dsimp only
  rw [if_pos ⟨⟨by decide, by decide⟩, ⟨by omega, by omega⟩, by unfold sizeMax; omega⟩]
  unfold rangeL rI
  rw [List.map_map, show ((m : Int) - 0).toNat = m by omega]
  congr 2
  exact List.map_congr_left fun k _ => by simp
theorem rI_mem {m : Nat} {x : Int} : x ∈ rI m ↔ 0 ≤ x ∧ x < m := by
  unfold rI
  simp only [List.mem_map, List.mem_range]
  constructor
  · rintro ⟨k, hk, rfl⟩; omega
  · rintro ⟨h1, h2⟩; exact ⟨x.toNat, by omega, by omega⟩
theorem rI_len (m : Nat) : (rI m).length = m := by simp [rI]
/-! ### subsets -/
def subsF (xs : List Int) : List (List Int) := xs.foldl (fun f x => f ++ f.map (· ++ [x])) [[]]
theorem subs_snoc (dn : List Int) (x : Int) : subsF (dn ++ [x]) = subsF dn ++ (subsF dn).map (· ++ [x]) := by
  unfold subsF
  rw [List.foldl_append]
  rfl
theorem snocInd {p : List Int → Prop} (h0 : p []) (h1 : ∀ dn x, p dn → p (dn ++ [x])) : ∀ l, p l := by
  intro l
  have : ∀ k, ∀ l : List Int, l.length = k → p l := by
    intro k
    induction k with
    | zero => intro l h; cases l with
      | nil => exact h0
      | cons _ _ => cases h
    | succ k ih =>
      intro l h
      have hne : l ≠ [] := by rintro rfl; cases h
      rw [← List.dropLast_concat_getLast hne]
      exact h1 _ _ (ih _ (by simp [h]))
  exact this _ l rfl
theorem subs_len : ∀ dn : List Int, (subsF dn).length = 2 ^ dn.length := by
  refine snocInd rfl fun dn x h => ?_
  rw [subs_snoc, List.length_append, List.length_map, h, List.length_append, List.length_singleton, Nat.pow_succ]
  omega
theorem subs_sub : ∀ (dn : List Int), ∀ o ∈ subsF dn, ∀ x ∈ o, x ∈ dn := by
  refine snocInd (p := fun dn => ∀ o ∈ subsF dn, ∀ x ∈ o, x ∈ dn) ?_ fun dn y ih => ?_
  · intro o ho x hx
    cases List.mem_singleton.mp ho
    cases hx
  · intro o ho x hx
    rw [subs_snoc] at ho
    rcases List.mem_append.mp ho with ho | ho
    · exact List.mem_append_left _ (ih o ho x hx)
    · obtain ⟨p, hp, rfl⟩ := List.mem_map.mp ho
      rcases List.mem_append.mp hx with hx | hx
      · exact List.mem_append_left _ (ih p hp x hx)
      · exact List.mem_append_right _ hx
theorem subs_self : ∀ dn : List Int, ∀ o ∈ subsF dn, o.length ≤ dn.length := by
  refine snocInd (p := fun dn => ∀ o ∈ subsF dn, o.length ≤ dn.length) ?_ fun dn y ih => ?_
  · intro o ho
    cases List.mem_singleton.mp ho
    exact Nat.le_refl _
  · intro o ho
    rw [subs_snoc] at ho
    rw [List.length_append, List.length_singleton]
    rcases List.mem_append.mp ho with ho | ho
    · have := ih o ho; omega
    · obtain ⟨p, hp, rfl⟩ := List.mem_map.mp ho
      have := ih p hp
      rw [List.length_append, List.length_singleton]; omega
/-- increasing rows have increasing subsets -/
theorem subs_inc : ∀ dn : List Int, dn.Pairwise (· < ·) → ∀ o ∈ subsF dn, o.Pairwise (· < ·) := by
  refine snocInd (p := fun dn => dn.Pairwise (· < ·) → ∀ o ∈ subsF dn, o.Pairwise (· < ·)) ?_ fun dn y ih => ?_
  · intro _ o ho
    cases List.mem_singleton.mp ho
    exact .nil
  · intro hp o ho
    rw [List.pairwise_append] at hp
    rw [subs_snoc] at ho
    rcases List.mem_append.mp ho with ho | ho
    · exact ih hp.1 o ho
    · obtain ⟨p, hq, rfl⟩ := List.mem_map.mp ho
      rw [List.pairwise_append]
      exact ⟨ih hp.1 p hq, List.pairwise_singleton _ _, fun a ha b hb => hp.2.2 a (subs_sub dn p hq a ha) b hb⟩
theorem rI_inc (m : Nat) : (rI m).Pairwise (· < ·) := by
  unfold rI
  rw [List.pairwise_map]
  exact List.Pairwise.imp (fun h => by omega) (List.pairwise_lt_range (n := m))
theorem rI_nodup (m : Nat) : (rI m).Nodup := List.Pairwise.imp (fun h => by omega) (rI_inc m)
theorem v_part0 : partD [] = some none := rfl
theorem v_part1 {i : Int} : partD [.int i] = some (some i) := rfl
end PV

namespace PV
open PySem
local macro_rules
  | `(tactic| walk_at "ev") => `(tactic| try simp -implicitDefEqProofs only [X_seq, X_skip, X_set, X_setT, X_setIx, X_augIx, X_ife, X_ret, X_expr, X_for, X_brk, X_cont, sem, Mean.of, Mean.ofTe, Mean.ofIt, W_bind, W_ok, R.bind_ok, lft_some, List.map_cons, List.map_nil, List.replicate, List.cons_append, List.nil_append, Nat.reduceSub, List.getElem?_cons_zero, List.getElem?_cons_succ, List.set_cons_zero, List.set_cons_succ, List.length_cons, List.length_nil, v_lt, v_gt, v_le, v_ge, v_eq, v_ne, v_tb, v_add, v_sub, v_int, v_intb, v_abs, v_aadd, v_asub, okPut_int, Nx_rt, Nx_bk, Nx_ct, sr_tup', wipe1, asg1, W_alloc, Br_t, Br_f, Bool.not_true, Bool.not_false, if_true, if_false, reduceIte, sr_tI, v_lenI, Bool.false_eq_true, v_part0, v_part1, ss_ref, ss_tup, ss_fls, ss_tI])
/-! ### the state of the draws, functions that draw -/
def DQ (cells : List Int) (L : Sto) (p : D → Prop) : D → Sto → Prop := fun v S' => p v ∧ ∃ a b s, 0 ≤ a ∧ 0 ≤ b ∧ S' = DS cells a b s ++ L
theorem purs_app : ∀ {xs ys : List D}, D.purs xs = true → D.purs ys = true → D.purs (xs ++ ys) = true
  | [], _, _, h => h
  | x :: xs, ys, h, h' => by
    rw [D.purs, Bool.and_eq_true] at h
    rw [List.cons_append, D.purs, Bool.and_eq_true]
    exact ⟨h.1, purs_app h.2 h'⟩
theorem pur_mem : ∀ {xs : List D} {y : D}, D.purs xs = true → y ∈ xs → y.pur = true
  | z :: zs, y, h, hy => by
    rw [D.purs, Bool.and_eq_true] at h
    rcases List.mem_cons.mp hy with rfl | hy
    · exact h.1
    · exact pur_mem h.2 hy
/-! the functions, by the places of those that they call -/
def tPick (dr : Nat) : T := (.seq (.ret (.ix (.var 1) (.call dr (.cons (.var 0) (.cons (.bi .len (.cons (.var 1) .nil)) .nil))))) .skip)
def tRare (dr : Nat) : T := (.seq (.ret (.cmp .eq (.call dr (.cons (.var 0) (.cons (.var 1) .nil))) (.bin .fdiv (.var 1) (.num 2)))) .skip)
def tShuf (dr : Nat) : T := (.seq (.set 2 (.listOf (.var 1))) (.seq (.set 3 (.lst .nil)) (.seq (.for_ [4] (.range1 (.bi .len (.cons (.var 2) .nil))) (.seq (.expr (.meth .append (.var 3) (.cons (.meth .pop (.var 2) (.cons (.call dr (.cons (.var 0) (.cons (.bi .len (.cons (.var 2) .nil)) .nil))) .nil)) .nil))) .skip)) (.seq (.ret (.var 3)) .skip))))
def tPart (dr : Nat) : T := (.seq (.set 2 (.comp [3, 4] (.zip (.var 1) (.comp [5] (.range1 (.bi .len (.cons (.var 1) .nil))) .nil (.call dr (.cons (.var 0) (.cons (.num 2) .nil))))) (.cmp .eq (.var 4) (.num 1)) (.var 3))) (.seq (.ret (.tupOf (.var 2))) .skip))
def tSome (pa pi : Nat) : T := (.seq (.set 2 (.call pa (.cons (.var 0) (.cons (.var 1) .nil)))) (.seq (.ife (.cmp .eq (.bi .len (.cons (.var 2) .nil)) (.num 0)) (.seq (.ret (.tup (.cons (.call pi (.cons (.var 0) (.cons (.var 1) .nil))) .nil))) .skip) .skip) (.seq (.ret (.var 2)) .skip)))
def tIsInt : T := (.seq (.ret (.and (.isi (.var 0) .int) (.not (.isi (.var 0) .bool)))) .skip)
def tIsInts (ii : Nat) : T := (.seq (.ret (.and (.isi (.var 0) .tuple) (.bi .all (.cons (.comp [1] (.var 0) .nil (.call ii (.cons (.var 1) .nil))) .nil)))) .skip)
def tIsSet (is : Nat) : T := (.seq (.ife (.not (.call is (.cons (.var 0) .nil))) (.seq (.ret (.cb false)) .skip) .skip) (.seq (.ret (.bi .all (.cons (.comp [1] (.range2 (.num 1) (.bi .len (.cons (.var 0) .nil))) .nil (.cmp .lt (.ix (.var 0) (.bin .sub (.var 1) (.num 1))) (.ix (.var 0) (.var 1)))) .nil))) .skip))
section
variable {P : List Fn} {g : Nat → Option D} {n : Nat} {S : Sto}
/-! rows of ints, as told -/
theorem isInt_sp {f : Nat} (h : P[f]? = some ⟨1, 1, tIsInt⟩) (i : Int) : callN P g (n + 1) f [.int i] S = .ok (.bl true) S := by
  refine call_eq h rfl ?_
  simp only [tIsInt]
  walk_at "ev"
  simp only [isiD, lft_some, W_ok]
  walk_at "ev"
  exact fin_pur rfl ⟨rfl, take_same S⟩
theorem isInts_sp {f ii : Nat} (h : P[f]? = some ⟨1, 2, tIsInts ii⟩) (hi : P[ii]? = some ⟨1, 1, tIsInt⟩) (l : List Int) : callN P g (n + 2) f [tI l] S = .ok (.bl true) S := by
  refine call_eq h rfl ?_
  simp only [tIsInts]
  walk_at "ev"
  simp only [isiD, tI, lft_some, W_ok]
  walk_at "ev"
  refine W_compM (fun _ => D.bl true) (good_nil S) (fun x _ => ?_) ?_
  · walk_at "ev"
    rw [isInt_sp hi]
    rfl
  walk_at "ev"
  rw [all_true (ls := l) (fun _ => true) (getN S _ []) (fun _ _ => rfl)]
  walk_at "ev"
  refine fin_pur rfl ⟨?_, take_self S _⟩
  simp
theorem rng1 {m : Nat} (h : m ≤ 100000) : rangeSrc (.int 1) (.int m) = some ⟨((List.range (m - 1)).map fun (k : Nat) => (1 + (k : Int))).map .int, []⟩ := by
  unfold rangeSrc
  dsimp only
  rw [if_pos ⟨⟨by decide, by decide⟩, ⟨by omega, by omega⟩, by unfold sizeMax; omega⟩]
  unfold rangeL
  rw [List.map_map, show ((m : Int) - 1).toNat = m - 1 by omega]
  rfl
theorem isSet_sp {f is ii : Nat} (h : P[f]? = some ⟨1, 2, tIsSet is⟩) (hs : P[is]? = some ⟨1, 2, tIsInts ii⟩) (hi : P[ii]? = some ⟨1, 1, tIsInt⟩) (l : List Int) (hp : l.Pairwise (· < ·)) (hl : l.length ≤ 100000) : callN P g (n + 3) f [tI l] S = .ok (.bl true) S := by
  refine call_eq h rfl ?_
  simp only [tIsSet]
  walk_at "ev"
  have e7 := isInts_sp (g := g) (n := n) (S := S) hs hi l
  rw [e7]
  walk_at "ev"
  rw [Nx_nx]
  walk_at "ev"
  rw [rng1 hl]
  walk_at "ev"
  refine W_compM (fun _ => D.bl true) (good_nil S) (fun x hx => ?_) ?_
  · obtain ⟨k, hk, rfl⟩ := List.mem_map.mp hx
    have hk := List.mem_range.mp hk
    have h1 : k < l.length := by omega
    have h2 : k + 1 < l.length := by omega
    walk_at "ev"
    rw [v_ixI (i := 1 + (k : Int) - 1) (k := k) (by omega) (List.getElem?_eq_getElem h1), lft_some, R.bind_ok, v_ixI (i := 1 + (k : Int)) (k := k + 1) (by omega) (List.getElem?_eq_getElem h2)]
    walk_at "ev"
    rw [decide_eq_true (List.pairwise_iff_getElem.mp hp k (k + 1) h1 h2 (by omega))]
  · walk_at "ev"
    rw [all_true (ls := _) (fun _ => true) (getN S _ []) (fun _ _ => rfl)]
    walk_at "ev"
    refine fin_pur rfl ⟨?_, take_self S _⟩
    simp
theorem v_rangeB {m : Nat} (h : m ≤ 100000) : rangeSrc (.int 0) (.int m) = some ⟨(rI m).map .int, []⟩ := by
  unfold rangeSrc
  dsimp only
  rw [if_pos ⟨⟨by decide, by decide⟩, ⟨by omega, by omega⟩, by unfold sizeMax; omega⟩]
  unfold rangeL rI
  rw [List.map_map, show ((m : Int) - 0).toNat = m by omega]
  congr 2
  exact List.map_congr_left fun k _ => by simp
/-! the draws -/
variable {cells : List Int} {L : Sto} {a b s : Int} {dr : Nat}
theorem drw (hd : P[dr]? = some ⟨2, 5, tDraw⟩) {many : Int} (ha : 0 ≤ a) (hb : 0 ≤ b) (hm : 0 < many) (hm2 : many < 1073741824) : W (callN P g (n + 1) dr [.ref 1, .int many] (DS cells a b s ++ L)) (DQ cells L fun v => ∃ r, v = .int r ∧ 0 ≤ r ∧ r < many) :=
  (draw_sp (f := dr) hd ha hb hm hm2).mono fun v S' ⟨r, a', b', s', h1, h2, h3, h4, h5, h6⟩ => ⟨⟨r, h1, h2, h3⟩, a', b', s', h4, h5, h6⟩
theorem ds_L {j : Nat} {o : O} (h : L[j]? = some o) : (DS cells a b s ++ L)[2 + j]? = some o := by
  rw [List.getElem?_append_right (by show 2 ≤ _; omega)]
  show L[2 + j - 2]? = _
  rw [show 2 + j - 2 = j by omega]; exact h
theorem ds_set {j : Nat} {o : O} : (DS cells a b s ++ L).set (2 + j) o = DS cells a b s ++ L.set j o := by
  rw [List.set_append_right _ _ (by show 2 ≤ _; omega)]
  show _ ++ L.set (2 + j - 2) o = _
  rw [show 2 + j - 2 = j by omega]
theorem fin_ds {v : D} {T : Sto} {p : D → Prop} (hv : v.pur = true) (ha : 0 ≤ a) (hb : 0 ≤ b) (hp : p v) : Fin (2 + L.length) (DQ cells L p) (.rt v) (DS cells a b s ++ (L ++ T)) := by
  refine fin_pur hv ⟨hp, a, b, s, ha, hb, ?_⟩
  rw [← List.append_assoc, ← ds_len (cells := cells) (L := L) (a := a) (b := b) (s := s), List.take_left' rfl]
theorem fin_ds0 {v : D} {p : D → Prop} (hv : v.pur = true) (ha : 0 ≤ a) (hb : 0 ≤ b) (hp : p v) : Fin (2 + L.length) (DQ cells L p) (.rt v) (DS cells a b s ++ L) := by
  have q := fin_ds (cells := cells) (L := L) (T := []) (s := s) hv ha hb hp
  rw [List.append_nil] at q
  exact q
theorem asc (T : Sto) (o : O) : DS cells a b s ++ T ++ [o] = DS cells a b s ++ (T ++ [o]) := List.append_assoc ..
theorem newIx {T : Sto} {o : O} : (DS cells a b s ++ (T ++ [o]))[(DS cells a b s ++ T).length]? = some o := by
  rw [← List.append_assoc]
  exact getN _ _ []
theorem newIx' {T : Sto} {o : O} : (DS cells a b s ++ (T ++ [o]))[2 + T.length]? = some o := by
  rw [← ds_len (cells := cells) (a := a) (b := b) (s := s) (L := T)]
  exact newIx
/-- pick, of a list -/
theorem pick_sp {f : Nat} (h : P[f]? = some ⟨2, 2, tPick dr⟩) (hd : P[dr]? = some ⟨2, 5, tDraw⟩) {j : Nat} {xs : List D} (ha : 0 ≤ a) (hb : 0 ≤ b) (hx : L[j]? = some (.lst xs)) (h1 : 0 < xs.length) (h2 : xs.length < 1000) (h3 : D.purs xs = true) : W (callN P g (n + 2) f [.ref 1, .ref (2 + j)] (DS cells a b s ++ L)) (DQ cells L fun v => v ∈ xs) := by
  refine W_call h rfl ?_
  simp only [tPick, ds_len]
  walk_at "ev"
  rw [v_lenL (ds_L hx)]
  walk_at "ev"
  refine (drw hd ha hb (by omega) (by omega)).mono fun v S' ⟨⟨r, hv, hr0, hr1⟩, a', b', s', ha', hb', hS⟩ => ?_
  subst hv hS
  have hk : r.toNat < xs.length := by omega
  rw [v_ixL (ds_L hx) (k := r.toNat) (by omega) (List.getElem?_eq_getElem hk)]
  walk_at "ev"
  have hm : xs[r.toNat] ∈ xs := List.getElem_mem hk
  exact fin_ds0 (pur_mem h3 hm) ha' hb' hm
/-- pick, of a tuple -/
theorem pickT_sp {f : Nat} (h : P[f]? = some ⟨2, 2, tPick dr⟩) (hd : P[dr]? = some ⟨2, 5, tDraw⟩) {xs : List D} (ha : 0 ≤ a) (hb : 0 ≤ b) (h1 : 0 < xs.length) (h2 : xs.length < 1000) (h3 : D.purs xs = true) : W (callN P g (n + 2) f [.ref 1, .tup xs] (DS cells a b s ++ L)) (DQ cells L fun v => v ∈ xs) := by
  refine W_call h rfl ?_
  simp only [tPick, ds_len]
  walk_at "ev"
  rw [v_lenT]
  walk_at "ev"
  refine (drw hd ha hb (by omega) (by omega)).mono fun v S' ⟨⟨r, hv, hr0, hr1⟩, a', b', s', ha', hb', hS⟩ => ?_
  subst hv hS
  have hk : r.toNat < xs.length := by omega
  rw [v_ixT (k := r.toNat) (by omega) (List.getElem?_eq_getElem hk)]
  walk_at "ev"
  have hm : xs[r.toNat] ∈ xs := List.getElem_mem hk
  exact fin_ds0 (pur_mem h3 hm) ha' hb' hm
theorem rare_sp {f : Nat} (h : P[f]? = some ⟨2, 2, tRare dr⟩) (hd : P[dr]? = some ⟨2, 5, tDraw⟩) {many : Int} (ha : 0 ≤ a) (hb : 0 ≤ b) (hm : 0 < many) (hm2 : many < 1073741824) : W (callN P g (n + 2) f [.ref 1, .int many] (DS cells a b s ++ L)) (DQ cells L fun v => ∃ t, v = .bl t) := by
  refine W_call h rfl ?_
  simp only [tRare, ds_len]
  walk_at "ev"
  refine (drw hd ha hb hm hm2).mono fun v S' ⟨⟨r, hv, hr0, hr1⟩, a', b', s', ha', hb', hS⟩ => ?_
  subst hv hS
  rw [v_fdiv (by decide) (by decide)]
  walk_at "ev"
  exact fin_ds0 rfl ha' hb' ⟨_, rfl⟩
/-! part: zip, two targets -/
theorem wipe2 {ρ : Env} {i j : Nat} : wipeE ρ [i, j] = (ρ.set j none).set i none := rfl
theorem asg2 {ρ : Env} {i j : Nat} {x y : D} : asg [i, j] (.tup [x, y]) ρ = some ((ρ.set i (some x)).set j (some y)) := rfl
theorem zip_src {c d : Nat} {xs ys : List D} {S : Sto} (h1 : S[c]? = some (.lst xs)) (h2 : S[d]? = some (.lst ys)) : zipSrc (.ref c) (.ref d) S = some ⟨zipD xs ys, [(c, xs), (d, ys)]⟩ := by
  unfold zipSrc
  rw [if_pos (show isTup (.ref c) = isTup (.ref d) from rfl), sr_ref h1, sr_ref h2]
  rfl
theorem good_two {c d : Nat} {xs ys : List D} {S : Sto} (h1 : S[c]? = some (.lst xs)) (h2 : S[d]? = some (.lst ys)) : Src.good [(c, xs), (d, ys)] S := fun p hp => by
  rcases List.mem_cons.mp hp with rfl | hp
  · exact h1
  · cases List.mem_singleton.mp hp
    exact h2
theorem zip_map : ∀ (xs ts : List Int), zipD (xs.map .int) (ts.map .int) = (xs.zip ts).map fun p => D.tup [.int p.1, .int p.2]
  | [], _ => by cases ‹List Int› <;> rfl
  | _ :: _, [] => rfl
  | x :: xs, t :: ts => by
    have := zip_map xs ts
    unfold zipD at this ⊢
    rw [List.map_cons, List.map_cons, List.zipWith_cons_cons, this]
    rfl
theorem part_sub : ∀ (xs ts : List Int) (p : Int × Int → Bool), (((xs.zip ts).filter p).map (·.1)).Sublist xs
  | [], _, _ => by simp
  | _ :: _, [], _ => by simp
  | x :: xs, t :: ts, p => by
    rw [List.zip_cons_cons, List.filter_cons]
    split
    · exact (part_sub xs ts p).cons₂ x
    · exact (part_sub xs ts p).cons x
theorem part_sp {f : Nat} (h : P[f]? = some ⟨2, 6, tPart dr⟩) (hd : P[dr]? = some ⟨2, 5, tDraw⟩) {j : Nat} {xs : List Int} (ha : 0 ≤ a) (hb : 0 ≤ b) (hx : L[j]? = some (.lst (xs.map .int))) (h2 : xs.length < 1000) : W (callN P g (n + 2) f [.ref 1, .ref (2 + j)] (DS cells a b s ++ L)) (DQ cells L fun v => ∃ ys : List Int, v = tI ys ∧ ys.Sublist xs) := by
  refine W_call h rfl ?_
  simp only [tPart, ds_len]
  walk_at "ev"
  rw [v_lenL (ds_L hx)]
  walk_at "ev"
  rw [List.length_map, v_rangeB (by omega)]
  walk_at "ev"
  refine W_comp (fun dn acc S' => (∃ ts : List Int, acc = ts.map .int) ∧ ∃ a b s, 0 ≤ a ∧ 0 ≤ b ∧ S' = DS cells a b s ++ L) ⟨⟨[], rfl⟩, _, _, _, ha, hb, rfl⟩ (fun _ _ _ _ => good_nil _) (fun dn x rest acc S' e ⟨⟨ts, h1⟩, a, b, s, h2, h3, h4⟩ => ?_) fun acc S' ⟨⟨ts, h1⟩, a, b, s, h2, h3, h4⟩ => ?_
  · subst h1 h4
    walk_at "ev"
    refine (drw hd h2 h3 (by decide) (by decide)).mono fun v S' ⟨⟨r, hv, _, _⟩, a', b', s', ha', hb', hS⟩ => ?_
    subst hv hS
    exact ⟨⟨ts ++ [r], by rw [List.map_append]; rfl⟩, a', b', s', ha', hb', rfl⟩
  · subst h1 h4
    walk_at "ev"
    rw [asc, zip_src (by rw [← asc]; exact getL (ds_L hx)) newIx]
    walk_at "ev"
    rw [zip_map]
    refine W_compF (fun p => p.2 == 1) (fun p => D.int p.1) (good_two (by rw [← asc]; exact getL (ds_L hx)) newIx) (fun p hp => ?_) ?_
    · rw [wipe2, asg2]
      walk_at "ev"
      split <;> rfl
    · walk_at "ev"
      rw [Nx_nx]
      walk_at "ev"
      rw [asc, sr_ref newIx]
      walk_at "ev"
      rw [List.append_assoc]
      refine fin_ds ?_ h2 h3 ⟨((xs.zip ts).filter fun p => p.2 == 1).map (·.1), ?_, part_sub _ _ _⟩
      · exact purs_all (f := fun p : Int × Int => D.int p.1) (fun _ => rfl) _
      · unfold tI
        rw [List.map_map]
        rfl
theorem some_sp {f pa pi : Nat} (h : P[f]? = some ⟨2, 3, tSome pa pi⟩) (hpa : P[pa]? = some ⟨2, 6, tPart dr⟩) (hpi : P[pi]? = some ⟨2, 2, tPick dr⟩) (hd : P[dr]? = some ⟨2, 5, tDraw⟩) {j : Nat} {xs : List Int} (ha : 0 ≤ a) (hb : 0 ≤ b) (hx : L[j]? = some (.lst (xs.map .int))) (h1 : 0 < xs.length) (h2 : xs.length < 1000) :
    W (callN P g (n + 3) f [.ref 1, .ref (2 + j)] (DS cells a b s ++ L)) (DQ cells L fun v => ∃ ys : List Int, v = tI ys ∧ ys.Sublist xs ∧ ys ≠ []) := by
  refine W_call h rfl ?_
  simp only [tSome, ds_len]
  walk_at "ev"
  refine (part_sp hpa hd ha hb hx h2).mono fun v S' ⟨⟨ys, hv, hsub⟩, a', b', s', ha', hb', hS⟩ => ?_
  subst hv hS
  rw [Nx_nx]
  walk_at "ev"
  refine Br_if (fun hb0 => ?_) fun hb0 => ?_
  · walk_at "ev"
    refine (pick_sp hpi hd ha' hb' hx (by rw [List.length_map]; exact h1) (by rw [List.length_map]; exact h2) (purs_int xs)).mono fun v S' ⟨hv, a2, b2, s2, ha2, hb2, hS⟩ => ?_
    subst hS
    obtain ⟨x, hx1, rfl⟩ := List.mem_map.mp hv
    walk_at "ev"
    exact fin_ds0 rfl ha2 hb2 ⟨[x], rfl, List.singleton_sublist.mpr hx1, by simp⟩
  · walk_at "ev"
    rw [Nx_nx]
    walk_at "ev"
    refine fin_ds0 (pur_tI ys) ha' hb' ⟨ys, rfl, hsub, ?_⟩
    rintro rfl
    simp at hb0
/-! shuffled -/
theorem v_pop {base c k : Nat} {i : Int} {xs : List D} {d : D} {S : Sto} (h : S[c]? = some (.lst xs)) (hi : i = (k : Int)) (hd : xs[k]? = some d) : methD base .pop (.ref c) [.int i] S = .ok d (S.set c (.lst (xs.eraseIdx k))) := by
  simp only [methD, h]
  rw [ixN_of hi (List.getElem?_eq_some_iff.mp hd).1]
  dsimp only
  rw [hd]
theorem ind_at {A B : O} : (L ++ [A, B])[L.length]? = some A := by
  rw [List.getElem?_append_right (Nat.le_refl _), Nat.sub_self]; rfl
theorem ind_at1 {A B : O} : (L ++ [A, B])[L.length + 1]? = some B := by
  rw [List.getElem?_append_right (by omega), show L.length + 1 - L.length = 1 by omega]; rfl
theorem ind_set {A B C : O} : (L ++ [A, B]).set L.length C = L ++ [C, B] := by
  rw [List.set_append_right _ _ (Nat.le_refl _), Nat.sub_self]; rfl
theorem ind_set1 {A B C : O} : (L ++ [A, B]).set (L.length + 1) C = L ++ [A, C] := by
  rw [List.set_append_right _ _ (by omega), show L.length + 1 - L.length = 1 by omega]; rfl
theorem erase_map (xs : List Int) (k : Nat) : (xs.map D.int).eraseIdx k = (xs.eraseIdx k).map D.int := by
  induction xs generalizing k with
  | nil => rfl
  | cons x xs ih => cases k with
    | zero => rfl
    | succ k => rw [List.map_cons, List.eraseIdx_cons_succ, List.eraseIdx_cons_succ, List.map_cons, ih]
theorem erase_perm : ∀ (xs : List Int) (k : Nat) (x : Int), xs[k]? = some x → (x :: xs.eraseIdx k).Perm xs
  | [], _, _, h => by cases h
  | y :: ys, 0, x, h => by cases h; exact .refl _
  | y :: ys, k + 1, x, h => by
    have := erase_perm ys k x (by simpa using h)
    rw [List.eraseIdx_cons_succ]
    exact (List.Perm.swap y x _).trans (this.cons y)
theorem erase_mapG {α : Type} {kk : α → D} (xs : List α) (k : Nat) : (xs.map kk).eraseIdx k = (xs.eraseIdx k).map kk := by
  induction xs generalizing k with
  | nil => rfl
  | cons x xs ih => cases k with
    | zero => rfl
    | succ k => rw [List.map_cons, List.eraseIdx_cons_succ, List.eraseIdx_cons_succ, List.map_cons, ih]
theorem erase_permG {α : Type} : ∀ (xs : List α) (k : Nat) (x : α), xs[k]? = some x → (x :: xs.eraseIdx k).Perm xs
  | [], _, _, h => by cases h
  | y :: ys, 0, x, h => by cases h; exact .refl _
  | y :: ys, k + 1, x, h => by
    have := erase_permG ys k x (by simpa using h)
    rw [List.eraseIdx_cons_succ]
    exact (List.Perm.swap y x _).trans (this.cons y)
theorem shufG_sp {α : Type} {kk : α → D} (hkk : ∀ x, (kk x).pur = true) {f : Nat} (h : P[f]? = some ⟨2, 5, tShuf dr⟩) (hd : P[dr]? = some ⟨2, 5, tDraw⟩) {j : Nat} {xs : List α} (ha : 0 ≤ a) (hb : 0 ≤ b) (hx : L[j]? = some (.lst (xs.map kk))) (h2 : xs.length < 1000) :
    W (callN P g (n + 2) f [.ref 1, .ref (2 + j)] (DS cells a b s ++ L)) fun v S' => ∃ ys : List α, v = .ref (2 + L.length) ∧ ys.Perm xs ∧ ∃ a b s, 0 ≤ a ∧ 0 ≤ b ∧ S' = DS cells a b s ++ (L ++ [.lst (ys.map kk)]) := by
  refine W_call h rfl ?_
  simp only [tShuf, ds_len]
  walk_at "ev"
  rw [sr_ref (ds_L hx)]
  walk_at "ev"
  rw [Nx_nx]
  walk_at "ev"
  rw [Nx_nx]
  walk_at "ev"
  rw [v_lenL (getL (getN _ _ []))]
  walk_at "ev"
  rw [List.length_map, v_rangeB (by omega)]
  walk_at "ev"
  have hR : (DS cells a b s ++ L ++ [O.lst (xs.map kk)]).length = 2 + (L.length + 1) := by
    rw [List.length_append, ds_len]; simp only [List.length_singleton]; omega
  have hT : DS cells a b s ++ L ++ [O.lst (xs.map kk)] ++ [O.lst []] = DS cells a b s ++ (L ++ [O.lst (xs.map kk), O.lst (([] : List α).map kk)]) := by simp
  rw [hT, hR, ds_len]
  refine W_forM (fun dn ρ S' => ∃ (st fd : List α) (a b s : Int) (o : Option D), 0 ≤ a ∧ 0 ≤ b ∧ S' = DS cells a b s ++ (L ++ [O.lst (st.map kk), O.lst (fd.map kk)]) ∧ (fd ++ st).Perm xs ∧ fd.length = dn.length ∧ ρ = [some (.ref 1), some (.ref (2 + j)), some (.ref (2 + L.length)), some (.ref (2 + (L.length + 1))), o])
    ⟨xs, [], _, _, _, _, ha, hb, rfl, .refl _, rfl, rfl⟩ (fun _ _ _ _ => good_nil _) (fun dn x rest ρ S' e ⟨st, fd, a, b, s, o, ha, hb, h1, hp, hl, h3⟩ => ?_) fun ρ S' ⟨st, fd, a, b, s, o, ha, hb, h1, hp, hl, h3⟩ => ?_
  · subst h1 h3
    have hlen := hp.length_eq
    rw [List.length_append] at hlen
    have hdn : dn.length < xs.length := by
      have := rI_len xs.length
      rw [e, List.length_append, List.length_cons] at this
      omega
    rw [W_turn1]
    walk_at "ev"
    rw [mtOk_l (ds_L ind_at1)]
    walk_at "ev"
    rw [mtOk_l (ds_L ind_at)]
    walk_at "ev"
    rw [v_lenL (ds_L ind_at), List.length_map]
    walk_at "ev"
    refine (drw hd ha hb (by omega) (by omega)).mono fun v S' ⟨⟨r, hv, hr0, hr1⟩, a', b', s', ha', hb', hS⟩ => ?_
    subst hv hS
    have hk : r.toNat < st.length := by omega
    rw [v_pop (ds_L ind_at) (k := r.toNat) (by omega) (by rw [List.getElem?_map, List.getElem?_eq_getElem hk]; rfl)]
    walk_at "ev"
    rw [ds_set, ind_set, v_app (ds_L ind_at1) (by rw [List.length_map]; unfold sizeMax; omega) (okPut_pur (hkk _))]
    walk_at "ev"
    rw [Nx_nx]
    walk_at "ev"
    refine ⟨st.eraseIdx r.toNat, fd ++ [st[r.toNat]], a', b', s', _, ha', hb', ?_, ?_, ?_, rfl⟩
    · rw [ds_set, ind_set1, erase_mapG, List.map_append]; rfl
    · refine List.Perm.trans ?_ hp
      rw [List.append_assoc]
      exact (erase_permG st _ _ (List.getElem?_eq_getElem hk)).append_left fd
    · rw [List.length_append, List.length_append, hl]; rfl
  · subst h1 h3
    rw [Nx_nx]
    walk_at "ev"
    have hst : st = [] := by
      have := hp.length_eq
      rw [List.length_append, hl, rI_len] at this
      exact List.eq_nil_of_length_eq_zero (by omega)
    subst hst
    refine fin_new (by omega) (ds_L ind_at1) (purs_all hkk fd) ⟨fd, rfl, by simpa using hp, a, b, s, ha, hb, ?_⟩
    rw [← List.append_assoc, ← ds_len (cells := cells) (L := L) (a := a) (b := b) (s := s), List.take_left' rfl, List.append_assoc]
theorem shuf_sp {f : Nat} (h : P[f]? = some ⟨2, 5, tShuf dr⟩) (hd : P[dr]? = some ⟨2, 5, tDraw⟩) {j : Nat} {xs : List Int} (ha : 0 ≤ a) (hb : 0 ≤ b) (hx : L[j]? = some (.lst (xs.map .int))) (h2 : xs.length < 1000) :
    W (callN P g (n + 2) f [.ref 1, .ref (2 + j)] (DS cells a b s ++ L)) fun v S' => ∃ ys : List Int, v = .ref (2 + L.length) ∧ ys.Perm xs ∧ ∃ a b s, 0 ≤ a ∧ 0 ≤ b ∧ S' = DS cells a b s ++ (L ++ [.lst (ys.map .int)]) :=
  shufG_sp (kk := .int) (fun _ => rfl) h hd ha hb hx h2
/-! begin -/
def tBegin : T := (.seq (.ret (.lst (.cons (.comp [1] (.var 0) .nil (.bi .int (.cons (.var 1) .nil))) (.cons (.num 0) (.cons (.num 0) (.cons (.num 7) .nil)))))) .skip)
theorem begin_sp {f : Nat} (h : P[f]? = some ⟨1, 2, tBegin⟩) (ns : List Int) : callN P g (n + 1) f [.fls (ns.map .int)] [] = .ok (.ref 1) (DS ns 0 0 7) := by
  refine call_eq h rfl ?_
  simp only [tBegin]
  walk_at "ev"
  rw [show srcD (.fls (ns.map .int)) [] = some ⟨ns.map .int, []⟩ from rfl]
  walk_at "ev"
  refine W_compM D.int (good_nil _) (fun x _ => ?_) ?_
  · walk_at "ev"
  · walk_at "ev"
    show W (leave 0 (.ref 1) (DS ns 0 0 7)) fun v' S' => v' = .ref 1 ∧ S' = DS ns 0 0 7
    rw [leave_ref (Nat.zero_le _) (show (DS ns 0 0 7)[1]? = _ from rfl) rfl]
    exact W_okI ⟨rfl, rfl⟩
theorem v_ixLast {c : Nat} {xs : List D} {d : D} {S : Sto} (h : S[c]? = some (.lst (xs ++ [d]))) : ixD (.ref c) (.int (-1)) S = some d := by
  simp only [ixD, h, atI]
  unfold ixN
  rw [if_neg (by decide), if_pos (by rw [List.length_append, List.length_singleton]; omega)]
  rw [Option.bind_some, List.length_append, List.length_singleton, show (-1 + ((xs.length + 1 : Nat) : Int)).toNat = xs.length by omega, List.getElem?_append_right (Nat.le_refl _), Nat.sub_self]
  rfl
/-- what a function that draws leaves, taken apart -/
theorem W_dq {r : R D} {p : D → Prop} {Q : D → Sto → Prop} (h : W r (DQ cells L p)) (k : ∀ v a b s, p v → 0 ≤ a → 0 ≤ b → Q v (DS cells a b s ++ L)) : W r Q := by
  refine h.mono fun v S' ⟨hv, a, b, s, ha, hb, hS⟩ => ?_
  subst hS
  exact k v a b s hv ha hb
theorem W_drw (hd : P[dr]? = some ⟨2, 5, tDraw⟩) {many : Int} (ha : 0 ≤ a) (hb : 0 ≤ b) (hm : 0 < many) (hm2 : many < 1073741824) {Q : D → Sto → Prop} (k : ∀ r a b s, 0 ≤ r → r < many → 0 ≤ a → 0 ≤ b → Q (.int r) (DS cells a b s ++ L)) :
    W (callN P g (n + 1) dr [.ref 1, .int many] (DS cells a b s ++ L)) Q :=
  W_dq (drw hd ha hb hm hm2) fun v a b s ⟨r, hv, h0, h1⟩ ha hb => by
    subst hv
    exact k r a b s h0 h1 ha hb
/-- a row of draws -/
theorem W_draws (hd : P[dr]? = some ⟨2, 5, tDraw⟩) {many : Int} (ha : 0 ≤ a) (hb : 0 ≤ b) (hm : 0 < many) (hm2 : many < 1073741824) {xs : List D} {step : D → Sto → R (Option D)} (hstep : ∀ x S, step x S = (callN P g (n + 1) dr [.ref 1, .int many] S).bind fun v S => .ok (some v) S) {Q : List D → Sto → Prop}
    (k : ∀ (ts : List Int) a b s, ts.length = xs.length → (∀ t ∈ ts, 0 ≤ t ∧ t < many) → 0 ≤ a → 0 ≤ b → Q (ts.map .int) (DS cells a b s ++ L)) :
    W (compL [] step xs (DS cells a b s ++ L)) Q := by
  refine W_comp (fun dn acc S' => (∃ ts : List Int, acc = ts.map .int ∧ ts.length = dn.length ∧ ∀ t ∈ ts, 0 ≤ t ∧ t < many) ∧ ∃ a b s, 0 ≤ a ∧ 0 ≤ b ∧ S' = DS cells a b s ++ L) ⟨⟨[], rfl, rfl, by simp⟩, _, _, _, ha, hb, rfl⟩ (fun _ _ _ _ => good_nil _) (fun dn x rest acc S' e ⟨⟨ts, h1, hl, ht⟩, a, b, s, h2, h3, h4⟩ => ?_) fun acc S' ⟨⟨ts, h1, hl, ht⟩, a, b, s, h2, h3, h4⟩ => ?_
  · subst h1 h4
    rw [hstep, W_bind]
    refine W_drw hd h2 h3 hm hm2 fun r a b s hr0 hr1 ha hb => ?_
    refine W_okI ⟨⟨ts ++ [r], by rw [List.map_append]; rfl, by rw [List.length_append, List.length_append, hl]; rfl, fun t htt => ?_⟩, a, b, s, ha, hb, rfl⟩
    rcases List.mem_append.mp htt with htt | htt
    · exact ht t htt
    · rw [List.mem_singleton.mp htt]; exact ⟨hr0, hr1⟩
  · subst h1 h4
    exact k ts a b s hl ht h2 h3
/-! while -/
theorem whN_succ {c : Env → Sto → R Bool} {f : Env → Sto → R Fl} : ∀ (k : Nat) (ρ : Env) (S : Sto), whN c f k ρ S ≠ .bad → whN c f (k + 1) ρ S = whN c f k ρ S
  | 0, ρ, S, h => absurd rfl h
  | k + 1, ρ, S, h => by
    unfold whN at h
    rw [whN, whN]
    cases hc : c ρ S with
    | bad => rfl
    | exc _ _ _ => rfl
    | ok t S1 =>
      rw [hc] at h
      rw [R.bind_ok] at h ⊢
      rw [R.bind_ok]
      split
      · rename_i ht
        rw [if_pos ht] at h
        cases hf : f ρ S1 with
        | bad => rfl
        | exc _ _ _ => rfl
        | ok fl S2 =>
          rw [hf, R.bind_ok] at h
          rw [R.bind_ok, R.bind_ok]
          cases fl with
          | nx ρ' => exact whN_succ k ρ' S2 h
          | ct ρ' => exact whN_succ k ρ' S2 h
          | bk ρ' => rfl
          | rt v => rfl
      · rfl
theorem whN_le {c : Env → Sto → R Bool} {f : Env → Sto → R Fl} {k : Nat} {ρ : Env} {S : Sto} (h : whN c f k ρ S ≠ .bad) : ∀ i, whN c f (k + i) ρ S = whN c f k ρ S
  | 0 => rfl
  | i + 1 => by
    have := whN_le h i
    rw [← Nat.add_assoc, whN_succ (k + i) ρ S (by rw [this]; exact h), this]
theorem wh_eq {c : Env → Sto → R Bool} {f : Env → Sto → R Fl} {k : Nat} {ρ : Env} {S : Sto} (h : whN c f k ρ S ≠ .bad) : wh c f ρ S = whN c f k ρ S := by
  have he : ∃ n, whN c f n ρ S ≠ .bad := ⟨k, h⟩
  unfold wh
  rw [dif_pos he]
  have h2 := he.choose_spec
  rw [← whN_le h2 k, ← whN_le h he.choose, Nat.add_comm]
theorem W_while {c : Env → Sto → R Bool} {f : Env → Sto → R Fl} {Q : Fl → Sto → Prop} (I : Nat → Env → Sto → Prop) {k : Nat} {ρ : Env} {S : Sto} (h0 : I k ρ S)
    (hs : ∀ k ρ S, I k ρ S → W (c ρ S) fun t S1 => if t = true then ∃ k', k = k' + 1 ∧ W (f ρ S1) (fun fl S2 => match fl with
      | .nx ρ' => I k' ρ' S2
      | .ct ρ' => I k' ρ' S2
      | .bk ρ' => Q (.nx ρ') S2
      | .rt v => Q (.rt v) S2) else Q (.nx ρ) S1) : W (wh c f ρ S) Q := by
  have key : ∀ k ρ S, I k ρ S → W (whN c f (k + 1) ρ S) Q := by
    intro k
    induction k with
    | zero =>
      intro ρ S hi
      unfold whN
      rw [W_bind]
      refine (hs 0 ρ S hi).mono fun t S1 q => ?_
      split
      · rename_i ht
        rw [if_pos ht] at q
        obtain ⟨k', e, _⟩ := q
        cases e
      · rename_i ht
        rw [if_neg ht] at q
        exact W_okI q
    | succ k ih =>
      intro ρ S hi
      unfold whN
      rw [W_bind]
      refine (hs (k + 1) ρ S hi).mono fun t S1 q => ?_
      split
      · rename_i ht
        rw [if_pos ht] at q
        obtain ⟨k', e, q⟩ := q
        cases e
        rw [W_bind]
        refine q.mono fun fl S2 q => ?_
        cases fl with
        | nx ρ' => exact ih ρ' S2 q
        | ct ρ' => exact ih ρ' S2 q
        | bk ρ' => exact W_okI q
        | rt v => exact W_okI q
      · rename_i ht
        rw [if_neg ht] at q
        exact W_okI q
  have hw := key k ρ S h0
  rw [wh_eq (k := k + 1)]
  · exact hw
  · intro hb
    rw [hb, W_bad] at hw
    exact hw
theorem X_while {c : Ctx} {t : E} {bd : T} {ρ : Env} {S : Sto} {Q : Fl → Sto → Prop} : W (exec c (.while_ t bd) ρ S) Q = W (wh (fun ρ S => (sem c t).te ρ S) (fun ρ S => exec c bd ρ S) ρ S) Q := by
  congr 1
/-! list.index, of tuples of ints -/
theorem idx_map (xs : List (List Int)) (x : List Int) : (xs.map tI).findIdx? (fun z => z.eqv (tI x)) = xs.findIdx? fun z => decide (z = x) := by
  induction xs with
  | nil => rfl
  | cons y ys ih => rw [List.map_cons, List.findIdx?_cons, List.findIdx?_cons, eqv_tI, ih]
theorem v_index {base c j : Nat} {xs : List (List Int)} {x : List Int} {S : Sto} (h : S[c]? = some (.lst (xs.map tI))) (hj : xs.findIdx? (fun z => decide (z = x)) = some j) : methD base .index (.ref c) [tI x] S = .ok (.int (j : Nat)) S := by
  simp only [methD, h]
  have h1 : D.purs (xs.map tI) = true := purs_all pur_tI xs
  have h2 : D.deps (xs.map tI) + 1 ≤ 40 := Nat.le_trans (Nat.add_le_add_right (deps_all (k := 1) (fun x => by rw [dep_tI]; exact Nat.le_refl _) xs) 1) (by decide)
  rw [if_pos (by rw [pur_tI, h1, dep_tI]; simp [maxDep, h2]), idx_map, hj]
end
theorem W_compG {α : Type} {w : List (Nat × List D)} {step : D → Sto → R (Option D)} {k : α → D} {xs : List α} {Q : List D → Sto → Prop} (I : List α → List D → Sto → Prop) {S : Sto} (h0 : I [] [] S) (hgood : ∀ dn acc S, I dn acc S → Src.good w S)
    (hstep : ∀ dn x rest acc S, xs = dn ++ x :: rest → I dn acc S → W (step (k x) S) fun o S' => I (dn ++ [x]) (acc ++ o.toList) S') (hend : ∀ acc S, I xs acc S → Q acc S) : W (compL w step (xs.map k) S) Q := by
  have key : ∀ (rest dn : List α) (acc : List D) (S : Sto), xs = dn ++ rest → I dn acc S → W (compL w step (rest.map k) S) fun vs S' => I xs (acc ++ vs) S' := by
    intro rest
    induction rest with
    | nil =>
      intro dn acc S e hi
      rw [List.append_nil] at e
      subst e
      rw [List.map_nil]
      unfold compL
      rw [if_pos (hgood _ _ _ hi), W_ok, List.append_nil]
      exact hi
    | cons x rest ih =>
      intro dn acc S e hi
      rw [List.map_cons]
      unfold compL
      rw [if_pos (hgood _ _ _ hi), W_bind]
      refine (hstep dn x rest acc S e hi).mono fun o S' q => ?_
      rw [W_bind]
      refine (ih (dn ++ [x]) _ S' (by rw [e]; simp) q).mono fun r S'' q2 => ?_
      rw [W_ok]
      cases o with
      | none => simpa using q2
      | some v => simpa using q2
  exact (key xs [] [] S rfl h0).mono fun vs S' q => hend vs S' q
theorem any_true {α : Type} {S : Sto} {c : Nat} {ls : List α} {f : α → D} (p : α → Bool) (h : S[c]? = some (.lst (ls.map f))) (hf : ∀ x ∈ ls, f x = .bl (p x)) : biD .any [.ref c] S = .ok (.bl (ls.any p)) S := by
  have hb : bools (ls.map f) = some (ls.map p) := by
    clear h
    induction ls with
    | nil => rfl
    | cons x l ih =>
      rw [List.map_cons, hf x List.mem_cons_self]
      show (bools (l.map f)).map _ = _
      rw [ih fun y hy => hf y (List.mem_cons_of_mem _ hy)]
      rfl
  show lft ((lstItems (.ref c) S).bind _) S = _
  simp only [lstItems, h, Option.bind_some, hb, Option.map_some, lft_some, List.any_map]
  rfl
end PV

namespace PV
open PySem
theorem chain_if {t u : Bool} {S : Sto} : (if t = true then R.ok (D.bl u) S else R.ok (D.bl false) S) = R.ok (D.bl (t && u)) S := by cases t <;> rfl
theorem te_and {t u : Bool} {S : Sto} : (if t = true then R.ok u S else R.ok false S) = R.ok (t && u) S := by cases t <;> rfl
theorem te_or {t u : Bool} {S : Sto} : (if t = true then R.ok true S else R.ok u S) = R.ok (t || u) S := by cases t <;> rfl
local macro_rules
  | `(tactic| walk_at "ev") => `(tactic| try simp -implicitDefEqProofs only [X_seq, X_skip, X_set, X_setT, X_setIx, X_augIx, X_ife, X_ret, X_expr, X_for, X_brk, X_cont, sem, Mean.of, Mean.ofTe, Mean.ofIt, W_bind, W_ok, R.bind_ok, lft_some, List.map_cons, List.map_nil, List.replicate, List.cons_append, List.nil_append, Nat.reduceSub, List.getElem?_cons_zero, List.getElem?_cons_succ, List.set_cons_zero, List.set_cons_succ, List.length_cons, List.length_nil, v_lt, v_gt, v_le, v_ge, v_eq, v_ne, v_tb, v_add, v_sub, v_int, v_intb, v_abs, v_aadd, v_asub, okPut_int, Nx_rt, Nx_bk, Nx_ct, sr_tup', wipe1, asg1, W_alloc, Br_t, Br_f, Bool.not_true, Bool.not_false, if_true, if_false, reduceIte, sr_tI, v_lenI, Bool.false_eq_true, v_part0, v_part1, ss_ref, ss_tup, ss_fls, ss_tI, wipe2, chain_if, te_and, te_or])
/-! ### what the laws on doors share -/
def bs : Nat → List (List Int)
  | 0 => [[]]
  | n + 1 => (bs n).flatMap fun o => [o ++ [0], o ++ [1]]
def hol (k : Int) (s : List Int) : Bool := s.getD (k.natAbs - 1) 0 == (if 0 < k then 1 else 0)
/-- a literal of so many doors -/
def OkK (n : Nat) (k : Int) : Prop := k ≠ 0 ∧ k.natAbs ≤ n
theorem bs_len : ∀ {n : Nat} {s : List Int}, s ∈ bs n → s.length = n
  | 0, s, h => by cases List.mem_singleton.mp h; rfl
  | n + 1, s, h => by
    obtain ⟨o, ho, h⟩ := List.mem_flatMap.mp h
    have := bs_len ho
    simp only [List.mem_cons, List.not_mem_nil, or_false] at h
    rcases h with rfl | rfl <;> simp [this]
theorem bs_bit : ∀ {n : Nat} {s : List Int}, s ∈ bs n → ∀ x ∈ s, x = 0 ∨ x = 1
  | 0, s, h => by cases List.mem_singleton.mp h; intro x hx; cases hx
  | n + 1, s, h => by
    obtain ⟨o, ho, h⟩ := List.mem_flatMap.mp h
    have := bs_bit ho
    simp only [List.mem_cons, List.not_mem_nil, or_false] at h
    intro x hx
    rcases h with rfl | rfl <;> rcases List.mem_append.mp hx with hx | hx
    · exact this x hx
    · exact .inl (List.mem_singleton.mp hx)
    · exact this x hx
    · exact .inr (List.mem_singleton.mp hx)
theorem bs_num : ∀ n, (bs n).length = 2 ^ n
  | 0 => rfl
  | n + 1 => by
    unfold bs
    rw [List.length_flatMap, Nat.pow_succ, ← bs_num n]
    show ((bs n).map fun _ => 2).sum = _
    rw [List.map_const', List.sum_replicate_nat]
theorem bs_le {n : Nat} (h : n ≤ 6) : (bs n).length ≤ 64 := by
  rw [bs_num]
  exact Nat.pow_le_pow_right (by decide) h
/-- a rule -/
abbrev Ru := Bool × Int × List Int
def rlD (r : Ru) : D := .tup [.str (if r.1 = true then "least" else "most"), .int r.2.1, tI r.2.2]
def kee (r : Ru) (s : List Int) : Bool := if r.1 = true then decide (r.2.1 ≤ ((r.2.2.filter fun k => hol k s).length : Int)) else decide (((r.2.2.filter fun k => hol k s).length : Int) ≤ r.2.1)
theorem pur_rl (r : Ru) : (rlD r).pur = true := by
  show (true && (true && ((tI r.2.2).pur && true))) = true
  rw [pur_tI]
  rfl
structure OkR (n : Nat) (r : Ru) : Prop where
  lit : ∀ k ∈ r.2.2, OkK n k
  len : r.2.2.length ≤ 1000
def tHolds : T := (.seq (.ife (.cmp .gt (.var 0) (.num 0)) (.seq (.ret (.cmp .eq (.ix (.var 1) (.bin .sub (.var 0) (.num 1))) (.num 1))) .skip) .skip) (.seq (.ret (.cmp .eq (.ix (.var 1) (.bin .sub (.neg (.var 0)) (.num 1))) (.num 0))) .skip))
def tKeeps (h : Nat) : T := (.seq (.set 2 (.bi .len (.cons (.comp [3] (.ix (.var 0) (.num 2)) (.call h (.cons (.var 3) (.cons (.var 1) .nil))) (.var 3)) .nil))) (.seq (.ife (.cmp .eq (.ix (.var 0) (.num 0)) (.cs "least")) (.seq (.ret (.cmp .ge (.var 2) (.ix (.var 0) (.num 1)))) .skip) .skip) (.seq (.ret (.cmp .le (.var 2) (.ix (.var 0) (.num 1)))) .skip)))
def tAllSet : T := (.seq (.set 1 (.lst (.cons (.tup .nil) .nil))) (.seq (.for_ [2] (.range1 (.var 0)) (.seq (.set 1 (.comp2 [3] (.var 1) [4] (.tup (.cons (.num 0) (.cons (.num 1) .nil))) .nil (.bin .add (.var 3) (.tup (.cons (.var 4) .nil))))) .skip)) (.seq (.ret (.tupOf (.var 1))) .skip)))
def tSubs : T := (.seq (.set 1 (.lst (.cons (.tup .nil) .nil))) (.seq (.for_ [2] (.var 0) (.seq (.set 1 (.bin .add (.var 1) (.comp [3] (.var 1) .nil (.bin .add (.var 3) (.tup (.cons (.var 2) .nil)))))) .skip)) (.seq (.ret (.var 1)) .skip)))
def tLHolds : T := (.seq (.ret (.cmp .eq (.ix (.var 1) (.bin .sub (.bi .abs (.cons (.var 0) .nil)) (.num 1))) (.bi .int (.cons (.cmp .gt (.var 0) (.num 0)) .nil)))) .skip)
def tLKeeps (h : Nat) : T := (.seq (.set 2 (.bi .sum (.cons (.comp [3] (.ix (.var 0) (.num 2)) .nil (.bi .int (.cons (.call h (.cons (.var 3) (.cons (.var 1) .nil))) .nil))) .nil))) (.seq (.ife (.cmp .eq (.ix (.var 0) (.num 0)) (.cs "least")) (.seq (.ret (.cmp .ge (.var 2) (.ix (.var 0) (.num 1)))) .skip) .skip) (.seq (.ret (.cmp .le (.var 2) (.ix (.var 0) (.num 1)))) .skip)))
def tProd : T := (.seq (.set 1 (.lst (.cons (.tup .nil) .nil))) (.seq (.for_ [2] (.var 0) (.seq (.set 3 (.lst .nil)) (.seq (.for_ [4] (.var 1) (.seq (.set 3 (.bin .add (.var 3) (.comp [5] (.var 2) .nil (.bin .add (.var 4) (.tup (.cons (.var 5) .nil)))))) .skip)) (.seq (.set 1 (.var 3)) .skip)))) (.seq (.ret (.var 1)) .skip)))
def tLSet (pr lk : Nat) : T := (.seq (.set 2 (.call pr (.cons (.bin .mul (.lst (.cons (.tup (.cons (.num 0) (.cons (.num 1) .nil))) .nil)) (.var 0)) .nil))) (.seq (.ret (.tupOf (.comp [3] (.var 2) (.bi .all (.cons (.comp [4] (.var 1) .nil (.call lk (.cons (.var 4) (.cons (.var 3) .nil)))) .nil)) (.var 3)))) .skip))
section
variable {P : List Fn} {g : Nat → Option D} {n : Nat} {S : Sto}
theorem lit_ix {m : Nat} {k : Int} {s : List Int} (hk : OkK m k) (hs : s.length = m) : s[k.natAbs - 1]? = some (s.getD (k.natAbs - 1) 0) := by
  obtain ⟨h1, h2⟩ := hk
  have : k.natAbs - 1 < s.length := by omega
  rw [List.getD_eq_getElem?_getD, List.getElem?_eq_getElem this]
  rfl
theorem holds_sp {f m : Nat} (h : P[f]? = some ⟨2, 2, tHolds⟩) {k : Int} {s : List Int} (hk : OkK m k) (hs : s.length = m) : callN P g (n + 1) f [.int k, tI s] S = .ok (.bl (hol k s)) S := by
  have hi := lit_ix hk hs
  obtain ⟨h0, h1⟩ := hk
  refine call_eq h rfl ?_
  simp only [tHolds]
  walk_at "ev"
  refine Br_if (fun hb => ?_) fun hb => ?_
  · have hb := of_decide_eq_true hb
    walk_at "ev"
    rw [v_ixI (show k - 1 = ((k.natAbs - 1 : Nat) : Int) by omega) hi]
    walk_at "ev"
    refine fin_pur rfl ⟨?_, take_same S⟩
    unfold hol
    rw [if_pos hb]
  · have hb := of_decide_eq_false hb
    walk_at "ev"
    rw [Nx_nx]
    walk_at "ev"
    rw [v_ixI (show -k - 1 = ((k.natAbs - 1 : Nat) : Int) by omega) hi]
    walk_at "ev"
    refine fin_pur rfl ⟨?_, take_same S⟩
    unfold hol
    rw [if_neg hb]
theorem lholds_sp {f m : Nat} (h : P[f]? = some ⟨2, 2, tLHolds⟩) {k : Int} {s : List Int} (hk : OkK m k) (hs : s.length = m) : callN P g (n + 1) f [.int k, tI s] S = .ok (.bl (hol k s)) S := by
  have hi := lit_ix hk hs
  obtain ⟨h0, h1⟩ := hk
  refine call_eq h rfl ?_
  simp only [tLHolds]
  walk_at "ev"
  rw [v_ixI (show (if k < 0 then -k else k) - 1 = ((k.natAbs - 1 : Nat) : Int) by split <;> omega) hi]
  walk_at "ev"
  refine fin_pur rfl ⟨?_, take_same S⟩
  unfold hol b2i
  by_cases hb : 0 < k
  · rw [if_pos hb, if_pos (decide_eq_true hb)]
  · rw [if_neg hb, if_neg (by simpa using hb)]
theorem rl0 {r : Ru} : ixD (rlD r) (.int 0) S = some (.str (if r.1 = true then "least" else "most")) := rfl
theorem rl1 {r : Ru} : ixD (rlD r) (.int 1) S = some (.int r.2.1) := rfl
theorem rl2 {r : Ru} : ixD (rlD r) (.int 2) S = some (tI r.2.2) := rfl
theorem rl_eq {b : Bool} : cmpD .eq (.str (if b = true then "least" else "most")) (.str "least") S = some b := by cases b <;> rfl
theorem not_dlt (a b : Int) : (!decide (a < b)) = decide (b ≤ a) := by
  by_cases h : a < b
  · rw [decide_eq_true h, decide_eq_false (by omega)]; rfl
  · rw [decide_eq_false h, decide_eq_true (by omega)]; rfl
theorem keeps_sp {f hh m : Nat} (h : P[f]? = some ⟨2, 4, tKeeps hh⟩) (hf : P[hh]? = some ⟨2, 2, tHolds⟩) {r : Ru} {s : List Int} (hr : OkR m r) (hs : s.length = m) : callN P g (n + 2) f [rlD r, tI s] S = .ok (.bl (kee r s)) S := by
  refine call_eq h rfl ?_
  simp only [tKeeps]
  walk_at "ev"
  rw [rl2]
  walk_at "ev"
  refine W_compF (fun k => hol k s) .int (good_nil _) (fun k hk => ?_) ?_
  · walk_at "ev"
    rw [holds_sp hf (hr.lit k hk) hs]
    walk_at "ev"
    cases hol k s <;> rfl
  · walk_at "ev"
    rw [v_lenL (getN _ _ []), List.length_map]
    walk_at "ev"
    rw [Nx_nx]
    walk_at "ev"
    rw [rl0]
    walk_at "ev"
    rw [rl_eq]
    walk_at "ev"
    refine Br_if (fun hb => ?_) fun hb => ?_
    · walk_at "ev"
      rw [rl1]
      walk_at "ev"
      refine fin_pur rfl ⟨?_, take_self S _⟩
      unfold kee
      rw [if_pos hb, not_dlt]
    · walk_at "ev"
      rw [Nx_nx]
      walk_at "ev"
      rw [rl1]
      walk_at "ev"
      refine fin_pur rfl ⟨?_, take_self S _⟩
      unfold kee
      rw [if_neg (by rw [hb]; decide), not_dlt]
theorem sum_b2i (p : Int → Bool) : ∀ l : List Int, (l.map fun k => b2i (p k)).sum = ((l.filter p).length : Int)
  | [] => rfl
  | x :: l => by
    rw [List.map_cons, List.sum_cons, sum_b2i p l, List.filter_cons]
    cases p x with
    | true => rw [if_pos rfl, List.length_cons]; show 1 + _ = _; omega
    | false => rw [if_neg (by decide)]; show 0 + _ = _; omega
theorem intsOf_map : ∀ l : List Int, intsOf (l.map .int) = some l
  | [] => rfl
  | x :: l => by rw [List.map_cons, intsOf, intsOf_map l]; rfl
theorem v_sumL {c : Nat} {l : List Int} (h : S[c]? = some (.lst (l.map .int))) : biD .sum [.ref c] S = .ok (.int l.sum) S := by
  show lft ((lstItems (.ref c) S).bind _) S = _
  simp only [lstItems, h, Option.bind_some, intsOf_map, Option.map_some, lft_some]
theorem lkeeps_sp {f hh m : Nat} (h : P[f]? = some ⟨2, 4, tLKeeps hh⟩) (hf : P[hh]? = some ⟨2, 2, tLHolds⟩) {r : Ru} {s : List Int} (hr : OkR m r) (hs : s.length = m) : callN P g (n + 2) f [rlD r, tI s] S = .ok (.bl (kee r s)) S := by
  refine call_eq h rfl ?_
  simp only [tLKeeps]
  walk_at "ev"
  rw [rl2]
  walk_at "ev"
  refine W_compM (fun k => D.int (b2i (hol k s))) (good_nil _) (fun k hk => ?_) ?_
  · walk_at "ev"
    rw [lholds_sp hf (hr.lit k hk) hs]
    walk_at "ev"
  · walk_at "ev"
    have e1 : r.2.2.map (fun k => D.int (b2i (hol k s))) = (r.2.2.map fun k => b2i (hol k s)).map .int := by rw [List.map_map]; rfl
    rw [e1, v_sumL (getN _ _ []), sum_b2i]
    walk_at "ev"
    rw [Nx_nx]
    walk_at "ev"
    rw [rl0]
    walk_at "ev"
    rw [rl_eq]
    walk_at "ev"
    refine Br_if (fun hb => ?_) fun hb => ?_
    · walk_at "ev"
      rw [rl1]
      walk_at "ev"
      refine fin_pur rfl ⟨?_, take_self S _⟩
      unfold kee
      rw [if_pos hb, not_dlt]
    · walk_at "ev"
      rw [Nx_nx]
      walk_at "ev"
      rw [rl1]
      walk_at "ev"
      refine fin_pur rfl ⟨?_, take_self S _⟩
      unfold kee
      rw [if_neg (by rw [hb]; decide), not_dlt]
theorem tups_pur (ls : List (List Int)) : (D.tup (ls.map tI)).pur = true := purs_all pur_tI ls
theorem rI_posn {r : Nat} {dn rest : List Int} {x : Int} (e : rI r = dn ++ x :: rest) : x = (dn.length : Nat) ∧ dn.length < r := by
  have hl := congrArg List.length e
  rw [rI_len, List.length_append, List.length_cons] at hl
  have e8 : (rI r)[dn.length]? = some x := by rw [e, List.getElem?_append_right (Nat.le_refl _), Nat.sub_self]; rfl
  unfold rI at e8
  rw [List.getElem?_map, List.getElem?_eq_getElem (by simp; omega)] at e8
  exact ⟨by simpa using e8.symm, by omega⟩
theorem allset_sp {f m : Nat} (h : P[f]? = some ⟨1, 5, tAllSet⟩) (hm : m ≤ 6) : callN P g (n + 1) f [.int m] S = .ok (.tup ((bs m).map tI)) S := by
  refine call_eq h rfl ?_
  simp only [tAllSet]
  walk_at "ev"
  rw [Nx_nx]
  walk_at "ev"
  rw [v_rangeB (by omega)]
  walk_at "ev"
  refine W_forM (fun dn ρ S' => ∃ T k o p q, S' = S ++ T ∧ ρ = [some (.int m), some (.ref k), o, p, q] ∧ (S ++ T)[k]? = some (.lst ((bs dn.length).map tI))) ⟨[.lst [tI []]], S.length, _, _, _, rfl, rfl, getN S _ []⟩ (fun _ _ _ _ => good_nil _) (fun dn x rest ρ S' e ⟨T, k, o, p, q, h1, h2, h4⟩ => ?_) fun ρ S' ⟨T, k, o, p, q, h1, h2, h4⟩ => ?_
  · subst h1 h2
    obtain ⟨_, hdn⟩ := rI_posn e
    rw [W_turn1]
    walk_at "ev"
    rw [sr_ref h4]
    walk_at "ev"
    refine W_flatM (fun o => [tI (o ++ [0]), tI (o ++ [1])]) (good_one h4) (fun o ho => ?_) ?_
    · have hl : o.length < 1000 := by rw [bs_len ho]; omega
      walk_at "ev"
      rw [show ([D.int 0, D.int 1] : List D) = [0, 1].map D.int from rfl, compL_mapF (fun (x : Int) => tI (o ++ [x])) (good_nil _) (fun x hx => ?_)]
      · rfl
      · walk_at "ev"
        rw [v_snoc hl]
        walk_at "ev"
    · have e1 : ((bs dn.length).flatMap fun o => [tI (o ++ [0]), tI (o ++ [1])]) = (bs (dn.length + 1)).map tI := by
        show _ = ((bs dn.length).flatMap fun o => [o ++ [0], o ++ [1]]).map tI
        rw [List.map_flatMap]
        rfl
      rw [e1]
      refine W_allocB ?_ ?_
      · rw [List.length_map]
        have := bs_le (n := dn.length + 1) (by omega)
        unfold sizeMax
        omega
      · rw [Nx_nx]
        walk_at "ev"
        refine ⟨T ++ [.lst ((bs (dn.length + 1)).map tI)], _, _, _, _, by simp, rfl, ?_⟩
        simpa using getN (S ++ T) (O.lst ((bs (dn.length + 1)).map tI)) []
  · subst h1 h2
    rw [Nx_nx]
    walk_at "ev"
    rw [sr_ref h4]
    walk_at "ev"
    rw [rI_len]
    exact fin_pur (tups_pur _) ⟨rfl, take_self S _⟩
theorem subs_sp {f c : Nat} (h : P[f]? = some ⟨1, 4, tSubs⟩) {xs : List Int} (hS : S[c]? = some (.lst (xs.map .int))) (hx : xs.length ≤ 8) : callN P g (n + 1) f [.ref c] S = .ok (.ref S.length) (S ++ [.lst ((subsF xs).map tI)]) := by
  refine call_eq h rfl ?_
  simp only [tSubs]
  walk_at "ev"
  rw [Nx_nx]
  walk_at "ev"
  rw [sr_ref (getL hS)]
  walk_at "ev"
  refine W_forM (fun dn ρ S' => ∃ T k o p, S' = S ++ T ∧ ρ = [some (.ref c), some (.ref k), o, p] ∧ S.length ≤ k ∧ (S ++ T)[k]? = some (.lst ((subsF dn).map tI))) ⟨[.lst [tI []]], S.length, _, _, rfl, rfl, Nat.le_refl _, getN S _ []⟩ (fun dn ρ S' ⟨T, k, o, p, h1, _⟩ => h1 ▸ good_one (getL hS)) (fun dn x rest ρ S' e ⟨T, k, o, p, h1, h2, h3, h4⟩ => ?_) fun ρ S' ⟨T, k, o, p, h1, h2, h3, h4⟩ => ?_
  · subst h1 h2
    rw [W_turn1]
    walk_at "ev"
    rw [sr_ref h4]
    walk_at "ev"
    have hdn : dn.length < 8 := by rw [e, List.length_append, List.length_cons] at hx; omega
    have hl : ∀ q ∈ subsF dn, q.length < 1000 := fun q hq => by have := subs_self dn q hq; omega
    refine W_compM (fun q => tI (q ++ [x])) (good_one h4) (fun q hq => ?_) ?_
    · walk_at "ev"
      rw [v_snoc (hl q hq)]
      walk_at "ev"
    · walk_at "ev"
      have h5 := getN (S ++ T) (.lst ((subsF dn).map fun q => tI (q ++ [x]))) []
      have hp : 2 ^ dn.length ≤ 2 ^ 8 := Nat.pow_le_pow_right (by decide) (by omega)
      rw [v_lcat (getL h4) h5 (by rw [List.length_map, List.length_map, subs_len]; unfold sizeMax; omega)]
      walk_at "ev"
      rw [Nx_nx]
      walk_at "ev"
      refine ⟨T ++ [.lst ((subsF dn).map fun q => tI (q ++ [x])), .lst ((subsF dn).map tI ++ (subsF dn).map fun q => tI (q ++ [x]))], _, _, _, by simp, rfl, by simp, ?_⟩
      rw [subs_snoc, List.map_append, List.map_map]
      have h6 := getN (S ++ T ++ [.lst ((subsF dn).map fun q => tI (q ++ [x]))]) (.lst ((subsF dn).map tI ++ (subsF dn).map fun q => tI (q ++ [x]))) []
      simpa [Function.comp_def] using h6
  · subst h1 h2
    rw [Nx_nx]
    walk_at "ev"
    exact fin_new h3 h4 (purs_all pur_tI _) ⟨rfl, by rw [take_self]⟩
theorem rep_len {m : Nat} {dn rest : List D} {x y : D} (e : List.replicate m y = dn ++ x :: rest) : x = y ∧ dn.length < m := by
  have hl := congrArg List.length e
  rw [List.length_replicate, List.length_append, List.length_cons] at hl
  refine ⟨?_, by omega⟩
  have : x ∈ List.replicate m y := by rw [e]; simp
  exact List.eq_of_mem_replicate this
theorem prod_sp {f c m : Nat} (h : P[f]? = some ⟨1, 6, tProd⟩) (hS : S[c]? = some (.lst (List.replicate m (tI [0, 1])))) (hm : m ≤ 6) : callN P g (n + 1) f [.ref c] S = .ok (.ref S.length) (S ++ [.lst ((bs m).map tI)]) := by
  refine call_eq h rfl ?_
  simp only [tProd]
  walk_at "ev"
  rw [Nx_nx]
  walk_at "ev"
  rw [sr_ref (getL hS)]
  walk_at "ev"
  rw [show List.replicate m (tI [0, 1]) = (List.replicate m (tI [0, 1])).map id by rw [List.map_id]]
  refine W_forM (fun dn ρ S' => ∃ T k o p q r, S' = S ++ T ∧ ρ = [some (.ref c), some (.ref k), o, p, q, r] ∧ S.length ≤ k ∧ (S ++ T)[k]? = some (.lst ((bs dn.length).map tI))) ⟨[.lst [tI []]], S.length, _, _, _, _, rfl, rfl, Nat.le_refl _, getN S _ []⟩ (fun dn ρ S' ⟨T, k, o, p, q, r, h1, _⟩ => h1 ▸ good_one (by rw [List.map_id]; exact getL hS)) (fun dn x rest ρ S' e ⟨T, k, o, p, q, r, h1, h2, h3, h4⟩ => ?_) fun ρ S' ⟨T, k, o, p, q, r, h1, h2, h3, h4⟩ => ?_
  · subst h1 h2
    obtain ⟨rfl, hdn⟩ := rep_len e
    rw [W_turn1]
    walk_at "ev"
    rw [Nx_nx]
    walk_at "ev"
    rw [sr_ref (getL h4)]
    walk_at "ev"
    refine W_forM (fun d2 ρ S' => ∃ T2 k2 o p, S' = S ++ T ++ T2 ∧ ρ = [some (.ref c), some (.ref k), some (tI [0, 1]), some (.ref k2), o, p] ∧ S.length ≤ k2 ∧ (S ++ T ++ T2)[k2]? = some (.lst ((d2.flatMap fun o => [o ++ [0], o ++ [1]]).map tI))) ⟨[.lst []], _, _, _, rfl, rfl, by simp, getN (S ++ T) _ []⟩ (fun d2 ρ S' ⟨T2, k2, o, p, h1, _⟩ => h1 ▸ good_one (getL h4))
      (fun d2 y rest2 ρ S' e2 ⟨T2, k2, o, p, h1, h2, h5, h6⟩ => ?_) fun ρ S' ⟨T2, k2, o, p, h1, h2, h5, h6⟩ => ?_
    · subst h1 h2
      rw [W_turn1]
      walk_at "ev"
      have hyl : y.length < 1000 := by rw [bs_len (n := dn.length) (s := y) (by rw [e2]; simp)]; omega
      rw [show ([D.int 0, D.int 1] : List D) = [0, 1].map D.int from rfl]
      refine W_compM (fun (z : Int) => tI (y ++ [z])) (good_nil _) (fun z hz => ?_) ?_
      · walk_at "ev"
        rw [v_snoc hyl]
        walk_at "ev"
      · walk_at "ev"
        have h7 := getN (S ++ T ++ T2) (.lst [tI (y ++ [0]), tI (y ++ [1])]) []
        have hl2 : d2.length ≤ 64 := by
          have := congrArg List.length e2
          rw [List.length_append, List.length_cons] at this
          have := bs_le (n := dn.length) (by omega)
          omega
        have hl3 : (d2.flatMap fun o => [o ++ [0], o ++ [1]]).length = d2.length * 2 := by
          rw [List.length_flatMap]
          show (d2.map fun _ => 2).sum = _
          rw [List.map_const', List.sum_replicate_nat]
        rw [v_lcat (getL h6) h7 (by rw [List.length_map, hl3]; simp; unfold sizeMax; omega)]
        walk_at "ev"
        rw [Nx_nx]
        walk_at "ev"
        refine ⟨T2 ++ [.lst [tI (y ++ [0]), tI (y ++ [1])], .lst ((d2.flatMap fun o => [o ++ [0], o ++ [1]]).map tI ++ [tI (y ++ [0]), tI (y ++ [1])])], _, _, _, by simp, rfl, by simp, ?_⟩
        have h8 := getN (S ++ T ++ T2 ++ [.lst [tI (y ++ [0]), tI (y ++ [1])]]) (.lst ((d2.flatMap fun o => [o ++ [0], o ++ [1]]).map tI ++ [tI (y ++ [0]), tI (y ++ [1])])) []
        simpa [List.flatMap_append] using h8
    · subst h1 h2
      rw [Nx_nx]
      walk_at "ev"
      rw [Nx_nx]
      walk_at "ev"
      refine ⟨T ++ T2, k2, _, _, _, _, by simp, rfl, h5, ?_⟩
      have e9 : ((bs dn.length).flatMap fun o => [o ++ [0], o ++ [1]]) = bs (dn.length + 1) := rfl
      rw [e9] at h6
      simpa using h6
  · subst h1 h2
    rw [Nx_nx]
    walk_at "ev"
    rw [List.length_replicate] at h4
    exact fin_new h3 h4 (purs_all pur_tI _) ⟨rfl, by rw [take_self]⟩
theorem v_repL {c k : Nat} {xs : List D} (h : S[c]? = some (.lst xs)) (hk : k ≤ 1000) (hl : xs.length ≤ 1000) : binD .mul (.ref c) (.int k) S = .ok (.ref S.length) (S ++ [.lst (List.replicate k xs).flatten]) := by
  show repL c k S = _
  unfold repL
  rw [h]
  dsimp only
  have : xs.length * k ≤ 1000 * 1000 := Nat.mul_le_mul hl hk
  rw [if_pos ⟨by omega, by unfold sizeMax; rw [Int.toNat_natCast]; omega⟩, Int.toNat_natCast]
  rfl
theorem rep_one (k : Nat) (x : D) : (List.replicate k [x]).flatten = List.replicate k x := by
  induction k with
  | zero => rfl
  | succ k ih => rw [List.replicate_succ, List.flatten_cons, ih, List.replicate_succ]; rfl
theorem W_ifB {α : Type} {b : Bool} {x y : R α} {Q : α → Sto → Prop} (h : b = true → W x Q) (k : ¬ b = true → W y Q) : W (if b = true then x else y) Q := by
  by_cases q : b = true
  · rw [if_pos q]; exact h q
  · rw [if_neg q]; exact k q
/-- the settings that keep all rules -/
def sets (m : Nat) (rs : List Ru) : List (List Int) := (bs m).filter fun s => rs.all fun r => kee r s
theorem lset_sp {f pr lk lh m : Nat} (h : P[f]? = some ⟨2, 5, tLSet pr lk⟩) (hp : P[pr]? = some ⟨1, 6, tProd⟩) (hk : P[lk]? = some ⟨2, 4, tLKeeps lh⟩) (hh : P[lh]? = some ⟨2, 2, tLHolds⟩) {rs : List Ru} (hr : ∀ r ∈ rs, OkR m r) (hm : m ≤ 6) :
    callN P g (n + 3) f [.int m, .tup (rs.map rlD)] S = .ok (.tup ((sets m rs).map tI)) S := by
  refine call_eq h rfl ?_
  simp only [tLSet]
  walk_at "ev"
  rw [show (D.tup [D.int 0, D.int 1]) = tI [0, 1] from rfl, v_repL (getN _ _ []) (by omega) (by simp), rep_one]
  walk_at "ev"
  rw [prod_sp (n := n + 1) (m := m) hp (getN _ _ []) hm]
  walk_at "ev"
  rw [Nx_nx]
  walk_at "ev"
  have h4 := getN (S ++ [O.lst [tI [0, 1]]] ++ [O.lst (List.replicate m (tI [0, 1]))]) (O.lst ((bs m).map tI)) []
  rw [sr_ref h4]
  walk_at "ev"
  generalize hS2 : S ++ [O.lst [tI [0, 1]]] ++ [O.lst (List.replicate m (tI [0, 1]))] ++ [O.lst ((bs m).map tI)] = S2 at h4 ⊢
  obtain ⟨T2, rfl⟩ : ∃ T2, S2 = S ++ T2 := ⟨_, by rw [← hS2, List.append_assoc, List.append_assoc]⟩
  refine W_compG (fun dn acc S' => ∃ T, acc = ((dn.filter fun s => rs.all fun r => kee r s).map tI) ∧ S' = S ++ T2 ++ T) ⟨[], rfl, by rw [List.append_nil]⟩ (fun dn acc S' ⟨T, _, h⟩ => h ▸ good_one (getL h4)) (fun dn s rest acc S' e ⟨T, h1, h2⟩ => ?_) fun acc S' ⟨T, h1, h2⟩ => ?_
  · subst h1 h2
    have hs := bs_len (n := m) (s := s) (by rw [e]; simp)
    walk_at "ev"
    refine W_compM (fun r => D.bl (kee r s)) (good_nil _) (fun r hrr => ?_) ?_
    · walk_at "ev"
      rw [lkeeps_sp (n := n) hk hh (hr r hrr) hs]
      walk_at "ev"
    · walk_at "ev"
      rw [all_true (ls := rs) (fun r => kee r s) (getN _ _ []) fun _ _ => rfl]
      walk_at "ev"
      refine W_ifB (fun hb => ?_) fun hb => ?_
      · rw [W_ok]
        refine ⟨T ++ [O.lst (rs.map fun r => D.bl (kee r s))], ?_, by simp⟩
        rw [List.filter_append, List.filter_cons, if_pos hb, List.map_append]
        rfl
      · rw [W_ok]
        refine ⟨T ++ [O.lst (rs.map fun r => D.bl (kee r s))], ?_, by simp⟩
        rw [List.filter_append, List.filter_cons, if_neg hb]
        simp
  · subst h1 h2
    walk_at "ev"
    rw [sr_ref (getN _ _ [])]
    walk_at "ev"
    refine fin_pur (tups_pur _) ⟨rfl, ?_⟩
    simp only [List.append_assoc]
    exact take_self S _
theorem v_neTI {a b : List Int} : cmpD .ne (tI a) (tI b) S = some (!decide (a = b)) := by
  have hp : ∀ l, plain (tI l) S = some (tI l) := fun l => if_pos (pur_tI l)
  show (eqD (tI a) (tI b) S).map _ = _
  unfold eqD
  rw [hp, hp]
  dsimp only
  have hd : ∀ l, depP (tI l) ≤ maxDep := fun l => by
    rw [show depP (tI l) = (tI l).dep from rfl, dep_tI]
    decide
  rw [if_pos ⟨hd a, hd b⟩, show eqP (tI a) (tI b) = (tI a).eqv (tI b) from rfl, eqv_tI]
  rfl
theorem v_ixIlast {l : List Int} {x : Int} (h : l.getLast? = some x) : ixD (tI l) (.int (-1)) S = some (.int x) := by
  have hne : l ≠ [] := by rintro rfl; cases h
  have hl : 0 < l.length := List.length_pos_iff.mpr hne
  unfold tI
  simp only [ixD, atI]
  unfold ixN
  rw [if_neg (by decide), if_pos (by rw [List.length_map]; omega), Option.bind_some, List.length_map, List.getElem?_map, show (-1 + (l.length : Int)).toNat = l.length - 1 by omega, ← List.getLast?_eq_getElem?, h]
  rfl
theorem v_eqT {x y : List Int} : cmpD .eq (tI x) (tI y) S = some (decide (x = y)) := by
  show eqD (tI x) (tI y) S = _
  unfold eqD
  have e : ∀ z : List Int, plain (tI z) S = some (tI z) := fun z => by
    show (if (tI z).pur = true then some (tI z) else none) = _
    rw [if_pos (pur_tI z)]
  rw [e, e]
  dsimp only
  have h1 : ∀ z : List Int, depP (tI z) ≤ maxDep := fun z => by
    show (tI z).dep ≤ maxDep
    rw [dep_tI]; decide
  rw [if_pos ⟨h1 x, h1 y⟩]
  congr 1
  exact eqv_tI x y
end
end PV

namespace PV
open PySem
local macro_rules
  | `(tactic| walk_at "ev") => `(tactic| try simp -implicitDefEqProofs only [X_seq, X_skip, X_set, X_setT, X_setIx, X_augIx, X_ife, X_ret, X_expr, X_for, X_brk, X_cont, sem, Mean.of, Mean.ofTe, Mean.ofIt, W_bind, W_ok, R.bind_ok, lft_some, List.map_cons, List.map_nil, List.replicate, List.cons_append, List.nil_append, Nat.reduceSub, List.getElem?_cons_zero, List.getElem?_cons_succ, List.set_cons_zero, List.set_cons_succ, List.length_cons, List.length_nil, v_lt, v_gt, v_le, v_ge, v_eq, v_ne, v_tb, v_add, v_sub, v_int, v_intb, v_abs, v_aadd, v_asub, okPut_int, Nx_rt, Nx_bk, Nx_ct, sr_tup', wipe1, asg1, W_alloc, Br_t, Br_f, Bool.not_true, Bool.not_false, if_true, if_false, reduceIte, sr_tI, v_lenI, Bool.false_eq_true, v_part0, v_part1, ss_ref, ss_tup, ss_fls, ss_tI, wipe2, chain_if, te_and, te_or, ss_str, v_addB, v_subB, Option.isSome_some, Option.isSome_none, Option.map_some])
/-! ### what the laws on plans share -/
abbrev Pl := List Str
def plD (p : Pl) : D := .tup (p.map .str)
theorem pur_pl (p : Pl) : (plD p).pur = true := purs_all (f := D.str) (fun _ => rfl) p
structure OkP (w : Nat) (p : Pl) : Prop where
  h0 : 0 < p.length
  h8 : p.length ≤ 8
  w0 : 0 < w
  w8 : w ≤ 8
  wid : ∀ l ∈ p, l.cps.toList.length = w
def chr (p : Pl) (w c : Nat) : Nat := (p.getD (c / w) ⟨#[]⟩).cps.toList.getD (c % w) 0
def dr (c : Nat) : Nat := if 49 ≤ c ∧ c ≤ 54 then c - 48 else if 65 ≤ c ∧ c ≤ 70 then c - 64 else 0
def OkS (p : Pl) (s : List Int) : Prop := ∀ l ∈ p, ∀ c ∈ l.cps.toList, dr c ≤ s.length
def kdS (c : Nat) (s : List Int) : Str := if c = 35 then "wall" else if c = 42 then "glass" else if c = 33 then "hole" else if (49 ≤ c ∧ c ≤ 54) ∧ s.getD (c - 49) 0 = 0 then "wall" else if (65 ≤ c ∧ c ≤ 70) ∧ s.getD (c - 65) 0 = 1 then "hole" else "free"
section
variable {P : List Fn} {g : Nat → Option D} {n : Nat} {S : Sto} {w : Nat} {p : Pl}
theorem one_eq (a b : Nat) : ((⟨#[a]⟩ : Str) == ⟨#[b]⟩) = decide (a = b) := by
  by_cases h : a = b
  · subst h; simp
  · rw [decide_eq_false h, beq_eq_false_iff_ne]
    intro e
    have := congrArg (fun z : Str => z.cps) e
    simp at this
    exact h this
theorem v_eqStr {a b : Str} : cmpD .eq (.str a) (.str b) S = some (a == b) := by
  show eqD (.str a) (.str b) S = _
  unfold eqD
  rw [show plain (.str a) S = some (.str a) from rfl, show plain (.str b) S = some (.str b) from rfl]
  dsimp only
  rw [if_pos ⟨show 0 ≤ maxDep from Nat.zero_le _, show 0 ≤ maxDep from Nat.zero_le _⟩]
  show some ((D.str a).eqv (D.str b)) = _
  rw [D.eqv]
theorem v_neStr {a b : Str} : cmpD .ne (.str a) (.str b) S = some (!(a == b)) := by
  have := v_eqStr (a := a) (b := b) (S := S)
  show (eqD (.str a) (.str b) S).map _ = _
  rw [show eqD (.str a) (.str b) S = some (a == b) from this]
  rfl
theorem v_eqS1 {a b : Nat} {z : Str} (hz : z = ⟨#[b]⟩) : cmpD .eq (.str ⟨#[a]⟩) (.str z) S = some (decide (a = b)) := by
  rw [v_eqStr, hz, one_eq]
theorem v_ixS {z : Str} {i : Int} {k c : Nat} (hi : i = (k : Int)) (h : z.cps.toList[k]? = some c) : ixD (.str z) (.int i) S = some (.str ⟨#[c]⟩) := by
  simp only [ixD, atI]
  rw [ixN_of hi (List.getElem?_eq_some_iff.mp h).1, Option.bind_some, h]
  rfl
theorem cell_lt {h c : Nat} (hw : 0 < w) (hc : c < w * h) : c / w < h ∧ c % w < w := ⟨Nat.div_lt_of_lt_mul hc, Nat.mod_lt _ hw⟩
theorem chr_at (ok : OkP w p) {c : Nat} (hc : c < w * p.length) : ∃ l ∈ p, p[c / w]? = some l ∧ l.cps.toList[c % w]? = some (chr p w c) ∧ chr p w c ∈ l.cps.toList := by
  obtain ⟨h1, h2⟩ := cell_lt ok.w0 hc
  have hl := List.getElem_mem h1
  have hk : c % w < (p[c / w]).cps.toList.length := by rw [ok.wid _ hl]; exact h2
  have e : chr p w c = (p[c / w]).cps.toList[c % w] := by
    have e1 : p.getD (c / w) ⟨#[]⟩ = p[c / w] := by rw [List.getD_eq_getElem?_getD, List.getElem?_eq_getElem h1]; rfl
    unfold chr
    rw [e1, List.getD_eq_getElem?_getD, List.getElem?_eq_getElem hk]
    rfl
  exact ⟨p[c / w], hl, List.getElem?_eq_getElem h1, by rw [e, List.getElem?_eq_getElem hk], by rw [e]; exact List.getElem_mem hk⟩
theorem chr_dr (ok : OkP w p) {s : List Int} (hs : OkS p s) {c : Nat} (hc : c < w * p.length) : dr (chr p w c) ≤ s.length := by
  obtain ⟨l, hl, _, _, hm⟩ := chr_at ok hc
  exact hs l hl _ hm
theorem head_at (ok : OkP w p) : ∃ l, p[0]? = some l ∧ l.length = w := by
  have h0 := ok.h0
  exact ⟨p[0], List.getElem?_eq_getElem h0, by have := ok.wid _ (List.getElem_mem h0); rw [Array.length_toList] at this; exact this⟩
def tWid : T := (.seq (.ret (.bi .len (.cons (.ix (.var 0) (.num 0)) .nil))) .skip)
def tChar (wd : Nat) : T := (.seq (.set 2 (.call wd (.cons (.var 0) .nil))) (.seq (.ret (.ix (.ix (.var 0) (.bin .fdiv (.var 1) (.var 2))) (.bin .mod (.var 1) (.var 2)))) .skip))
def tDoor (k : Nat) : T := (.seq (.ret (.bin .add (.bi .find (.cons (.glob k) (.cons (.var 0) .nil))) (.num 1))) .skip)
def tKind (ch gd ld ob : Nat) : T := (.seq (.set 3 (.call ch (.cons (.var 0) (.cons (.var 2) .nil)))) (.seq (.ife (.cmp .isin (.var 3) (.glob ob)) (.seq (.ret (.ix (.glob ob) (.var 3))) .skip) .skip) (.seq (.set 4 (.call gd (.cons (.var 3) .nil))) (.seq (.ife (.and (.cmp .gt (.var 4) (.num 0)) (.cmp .eq (.ix (.var 1) (.bin .sub (.var 4) (.num 1))) (.num 0))) (.seq (.ret (.cs "wall")) .skip) .skip) (.seq (.set 5 (.call ld (.cons (.var 3) .nil))) (.seq (.ife (.and (.cmp .gt (.var 5) (.num 0)) (.cmp .eq (.ix (.var 1) (.bin .sub (.var 5) (.num 1))) (.num 1))) (.seq (.ret (.cs "hole")) .skip) .skip) (.seq (.ret (.cs "free")) .skip)))))))
def tNextC (wd dn rt : Nat) : T := (.seq (.set 3 (.call wd (.cons (.var 0) .nil))) (.seq (.set 4 (.bin .add (.bin .fdiv (.var 1) (.var 3)) (.ix (.glob dn) (.var 2)))) (.seq (.set 5 (.bin .add (.bin .mod (.var 1) (.var 3)) (.ix (.glob rt) (.var 2)))) (.seq (.ife (.and (.chain .le .lt (.num 0) (.var 4) (.bi .len (.cons (.var 0) .nil))) (.chain .le .lt (.num 0) (.var 5) (.var 3))) (.seq (.ret (.bin .add (.bin .mul (.var 4) (.var 3)) (.var 5))) .skip) .skip) (.seq (.ret .cn) .skip)))))
def tLKind : T := (.seq (.set 3 (.bi .len (.cons (.ix (.var 0) (.num 0)) .nil))) (.seq (.set 4 (.ix (.ix (.var 0) (.bin .fdiv (.var 2) (.var 3))) (.bin .mod (.bi .int (.cons (.var 2) .nil)) (.var 3)))) (.seq (.ife (.cmp .eq (.var 4) (.cs "#")) (.seq (.ret (.cs "wall")) .skip) .skip) (.seq (.ife (.cmp .eq (.var 4) (.cs "*")) (.seq (.ret (.cs "glass")) .skip) .skip) (.seq (.ife (.cmp .eq (.var 4) (.cs "!")) (.seq (.ret (.cs "hole")) .skip) .skip) (.seq (.ife (.and (.cmp .isin (.var 4) (.cs "123456")) (.cmp .eq (.ix (.var 1) (.bin .sub (.bi .int (.cons (.var 4) .nil)) (.num 1))) (.num 0))) (.seq (.ret (.cs "wall")) .skip) .skip) (.seq (.ife (.and (.cmp .isin (.var 4) (.cs "ABCDEF")) (.cmp .eq (.ix (.var 1) (.bin .sub (.bi .ord (.cons (.var 4) .nil)) (.num 65))) (.num 1))) (.seq (.ret (.cs "hole")) .skip) .skip) (.seq (.ret (.cs "free")) .skip))))))))
def tLNext : T := (.seq (.set 3 (.bi .len (.cons (.ix (.var 0) (.num 0)) .nil))) (.seq (.set 4 (.bin .sub (.bin .add (.bin .fdiv (.var 1) (.var 3)) (.cmp .eq (.var 2) (.num 2))) (.cmp .eq (.var 2) (.num 0)))) (.seq (.set 5 (.bin .sub (.bin .add (.bin .mod (.bi .int (.cons (.var 1) .nil)) (.var 3)) (.cmp .eq (.var 2) (.num 1))) (.cmp .eq (.var 2) (.num 3)))) (.seq (.ife (.and (.chain .le .lt (.num 0) (.var 4) (.bi .len (.cons (.var 0) .nil))) (.chain .le .lt (.num 0) (.var 5) (.var 3))) (.seq (.ret (.bin .add (.bin .mul (.var 4) (.var 3)) (.var 5))) .skip) .skip) (.seq (.ret .cn) .skip)))))
theorem len_str {z : Str} : biD .len [.str z] S = .ok (.int z.length) S := rfl
theorem ix_pl {k : Nat} {l : Str} (h : p[k]? = some l) {i : Int} (hi : i = (k : Int)) : ixD (plD p) (.int i) S = some (.str l) := v_ixT hi (by rw [List.getElem?_map, h]; rfl)
theorem wid_sp {f : Nat} (h : P[f]? = some ⟨1, 1, tWid⟩) (ok : OkP w p) : callN P g (n + 1) f [plD p] S = .ok (.int w) S := by
  obtain ⟨l, h1, h2⟩ := head_at ok
  refine call_eq h rfl ?_
  simp only [tWid]
  walk_at "ev"
  rw [ix_pl (k := 0) (i := (0 : Int)) h1 rfl]
  walk_at "ev"
  rw [len_str, h2]
  walk_at "ev"
  exact fin_pur rfl ⟨rfl, take_same S⟩
theorem char_sp {f wd : Nat} (h : P[f]? = some ⟨2, 3, tChar wd⟩) (hwd : P[wd]? = some ⟨1, 1, tWid⟩) (ok : OkP w p) {c : Nat} (hc : c < w * p.length) : callN P g (n + 2) f [plD p, .int c] S = .ok (.str ⟨#[chr p w c]⟩) S := by
  obtain ⟨l, _, h1, h2, _⟩ := chr_at ok hc
  have hw := ok.w0
  have hw8 := ok.w8
  refine call_eq h rfl ?_
  simp only [tChar]
  walk_at "ev"
  rw [wid_sp (n := n) hwd ok]
  walk_at "ev"
  rw [Nx_nx]
  walk_at "ev"
  rw [v_fdiv (by omega) (by omega)]
  walk_at "ev"
  rw [ix_pl h1 (by rfl)]
  walk_at "ev"
  rw [v_mod (by omega)]
  walk_at "ev"
  rw [v_ixS (k := c % w) (by rfl) h2]
  walk_at "ev"
  exact fin_pur rfl ⟨rfl, take_same S⟩
/-! signs -/
theorem gates : ("123456" : Str).cps.toList = [49, 50, 51, 52, 53, 54] := by decide +kernel
theorem lids : ("ABCDEF" : Str).cps.toList = [65, 66, 67, 68, 69, 70] := by decide +kernel
theorem find_run (a c : Nat) : ((([a, a + 1, a + 2, a + 3, a + 4, a + 5] : List Nat).findIdx? fun d => d == c)) = if a ≤ c ∧ c ≤ a + 5 then some (c - a) else none := by
  by_cases h : a ≤ c ∧ c ≤ a + 5
  · rw [if_pos h]
    obtain ⟨k, rfl⟩ : ∃ k, c = a + k := ⟨c - a, by omega⟩
    have hk : k < 6 := by omega
    rw [Nat.add_sub_cancel_left]
    match k, hk with
    | 0, _ => simp [List.findIdx?_cons]
    | 1, _ => simp [List.findIdx?_cons]
    | 2, _ => simp [List.findIdx?_cons]
    | 3, _ => simp [List.findIdx?_cons]
    | 4, _ => simp [List.findIdx?_cons]
    | 5, _ => simp [List.findIdx?_cons]
  · rw [if_neg h, List.findIdx?_eq_none_iff]
    intro d hd
    rw [beq_eq_false_iff_ne]
    simp only [List.mem_cons, List.not_mem_nil, or_false] at hd
    omega
theorem findG (c : Nat) : findC "123456" c = if 49 ≤ c ∧ c ≤ 54 then (c : Int) - 49 else -1 := by
  unfold findC
  rw [gates, find_run 49 c]
  by_cases h : 49 ≤ c ∧ c ≤ 54
  · rw [if_pos h, if_pos h]
    show ((c - 49 : Nat) : Int) = _
    omega
  · rw [if_neg h, if_neg h]
theorem findL (c : Nat) : findC "ABCDEF" c = if 65 ≤ c ∧ c ≤ 70 then (c : Int) - 65 else -1 := by
  unfold findC
  rw [lids, find_run 65 c]
  by_cases h : 65 ≤ c ∧ c ≤ 70
  · rw [if_pos h, if_pos h]
    show ((c - 65 : Nat) : Int) = _
    omega
  · rw [if_neg h, if_neg h]
theorem v_find {z : Str} {c : Nat} : biD .find [.str z, .str ⟨#[c]⟩] S = .ok (.int (findC z c)) S := rfl
theorem inG (c : Nat) : cmpD .isin (.str ⟨#[c]⟩) (.str "123456") S = some (decide (49 ≤ c ∧ c ≤ 54)) := by
  show (some (decide (c ∈ ("123456" : Str).cps.toList)) : Option Bool) = _
  rw [gates]
  congr 1
  rw [decide_eq_decide]
  simp only [List.mem_cons, List.not_mem_nil, or_false]
  omega
theorem inL (c : Nat) : cmpD .isin (.str ⟨#[c]⟩) (.str "ABCDEF") S = some (decide (65 ≤ c ∧ c ≤ 70)) := by
  show (some (decide (c ∈ ("ABCDEF" : Str).cps.toList)) : Option Bool) = _
  rw [lids]
  congr 1
  rw [decide_eq_decide]
  simp only [List.mem_cons, List.not_mem_nil, or_false]
  omega
theorem v_intS {c : Nat} (h1 : 48 ≤ c) (h2 : c ≤ 57) : biD .int [.str ⟨#[c]⟩] S = .ok (.int ((c : Int) - 48)) S := if_pos ⟨rfl, h1, h2⟩
theorem v_ordS {c : Nat} : biD .ord [.str ⟨#[c]⟩] S = .ok (.int (c : Int)) S := rfl
def obs : List (Str × Str) := [("#", "wall"), ("*", "glass"), ("!", "hole")]
theorem obs_find (c : Nat) : (obs.find? fun q => q.1 == ⟨#[c]⟩) = if c = 35 then some (("#" : Str), ("wall" : Str)) else if c = 42 then some (("*" : Str), ("glass" : Str)) else if c = 33 then some (("!" : Str), ("hole" : Str)) else none := by
  unfold obs
  have e1 : (("#" : Str) == ⟨#[c]⟩) = decide (35 = c) := one_eq 35 c
  have e2 : (("*" : Str) == ⟨#[c]⟩) = decide (42 = c) := one_eq 42 c
  have e3 : (("!" : Str) == ⟨#[c]⟩) = decide (33 = c) := one_eq 33 c
  rw [List.find?_cons, List.find?_cons, List.find?_cons, e1, e2, e3]
  by_cases h1 : c = 35
  · subst h1; rfl
  · rw [if_neg h1, decide_eq_false (fun e => h1 e.symm)]
    by_cases h2 : c = 42
    · subst h2; rfl
    · rw [if_neg h2, decide_eq_false (fun e => h2 e.symm)]
      by_cases h3 : c = 33
      · subst h3; rfl
      · rw [if_neg h3, decide_eq_false (fun e => h3 e.symm)]
        rfl
theorem v_inO {c : Nat} : cmpD .isin (.str ⟨#[c]⟩) (.cdc obs) S = some (obs.find? fun q => q.1 == ⟨#[c]⟩).isSome := rfl
theorem v_ixO {c : Nat} : ixD (.cdc obs) (.str ⟨#[c]⟩) S = (obs.find? fun q => q.1 == ⟨#[c]⟩).map fun q => .str q.2 := rfl
theorem gate_sp {f k : Nat} (h : P[f]? = some ⟨1, 1, tDoor k⟩) (hg : g k = some (.str "123456")) {c : Nat} : callN P g (n + 1) f [.str ⟨#[c]⟩] S = .ok (.int (if 49 ≤ c ∧ c ≤ 54 then (c : Int) - 48 else 0)) S := by
  refine call_eq h rfl ?_
  simp only [tDoor]
  walk_at "ev"
  rw [hg]
  walk_at "ev"
  rw [v_find, findG]
  walk_at "ev"
  refine fin_pur rfl ⟨?_, take_same S⟩
  congr 1
  split <;> omega
theorem lid_sp {f k : Nat} (h : P[f]? = some ⟨1, 1, tDoor k⟩) (hg : g k = some (.str "ABCDEF")) {c : Nat} : callN P g (n + 1) f [.str ⟨#[c]⟩] S = .ok (.int (if 65 ≤ c ∧ c ≤ 70 then (c : Int) - 64 else 0)) S := by
  refine call_eq h rfl ?_
  simp only [tDoor]
  walk_at "ev"
  rw [hg]
  walk_at "ev"
  rw [v_find, findL]
  walk_at "ev"
  refine fin_pur rfl ⟨?_, take_same S⟩
  congr 1
  split <;> omega
theorem kind_sp {f ch gd ld ob wd k1 k2 : Nat} (h : P[f]? = some ⟨3, 6, tKind ch gd ld ob⟩) (hch : P[ch]? = some ⟨2, 3, tChar wd⟩) (hwd : P[wd]? = some ⟨1, 1, tWid⟩) (hgd : P[gd]? = some ⟨1, 1, tDoor k1⟩) (hld : P[ld]? = some ⟨1, 1, tDoor k2⟩)
    (g1 : g k1 = some (.str "123456")) (g2 : g k2 = some (.str "ABCDEF")) (g3 : g ob = some (.cdc obs)) (ok : OkP w p) {s : List Int} (hs : OkS p s) {c : Nat} (hc : c < w * p.length) : callN P g (n + 3) f [plD p, tI s, .int c] S = .ok (.str (kdS (chr p w c) s)) S := by
  have hd := chr_dr ok hs hc
  refine call_eq h rfl ?_
  simp only [tKind]
  walk_at "ev"
  rw [char_sp (n := n) hch hwd ok hc]
  generalize chr p w c = x at hd ⊢
  walk_at "ev"
  rw [Nx_nx]
  walk_at "ev"
  rw [g3]
  walk_at "ev"
  rw [v_inO, obs_find]
  unfold kdS
  by_cases h1 : x = 35
  · rw [if_pos h1, if_pos h1]
    walk_at "ev"
    rw [g3]
    walk_at "ev"
    rw [v_ixO, obs_find, if_pos h1]
    walk_at "ev"
    exact fin_pur rfl ⟨rfl, take_same S⟩
  rw [if_neg h1, if_neg h1]
  by_cases h2 : x = 42
  · rw [if_pos h2, if_pos h2]
    walk_at "ev"
    rw [g3]
    walk_at "ev"
    rw [v_ixO, obs_find, if_neg h1, if_pos h2]
    walk_at "ev"
    exact fin_pur rfl ⟨rfl, take_same S⟩
  rw [if_neg h2, if_neg h2]
  by_cases h3 : x = 33
  · rw [if_pos h3, if_pos h3]
    walk_at "ev"
    rw [g3]
    walk_at "ev"
    rw [v_ixO, obs_find, if_neg h1, if_neg h2, if_pos h3]
    walk_at "ev"
    exact fin_pur rfl ⟨rfl, take_same S⟩
  rw [if_neg h3, if_neg h3]
  walk_at "ev"
  rw [Nx_nx]
  walk_at "ev"
  rw [gate_sp (n := n + 1) hgd g1]
  walk_at "ev"
  rw [Nx_nx]
  walk_at "ev"
  have ixs : ∀ {k : Nat} {i : Int}, k < s.length → i = (k : Int) → ixD (tI s) (.int i) S = some (.int (s.getD k 0)) := fun {k i} hk hi => v_ixI hi (by rw [List.getD_eq_getElem?_getD, List.getElem?_eq_getElem hk]; rfl)
  have tail : ∀ {o4 o5 : Option D}, W (exec ⟨callN P g (n + 2), S.length, g⟩ (.seq (.set 5 (.call ld (.cons (.var 3) .nil))) (.seq (.ife (.and (.cmp .gt (.var 5) (.num 0)) (.cmp .eq (.ix (.var 1) (.bin .sub (.var 5) (.num 1))) (.num 1))) (.seq (.ret (.cs "hole")) .skip) .skip) (.seq (.ret (.cs "free")) .skip))) [some (plD p), some (tI s), some (.int c), some (.str ⟨#[x]⟩), o4, o5] S)
      (Fin S.length fun v S' => v = .str (if (65 ≤ x ∧ x ≤ 70) ∧ s.getD (x - 65) 0 = 1 then "hole" else "free") ∧ S' = S) := fun {o4 o5} => by
    walk_at "ev"
    rw [lid_sp (n := n + 1) hld g2]
    walk_at "ev"
    rw [Nx_nx]
    walk_at "ev"
    by_cases hl : 65 ≤ x ∧ x ≤ 70
    · have hlen : x - 65 < s.length := by
        unfold dr at hd
        rw [if_neg (by omega), if_pos hl] at hd
        omega
      rw [if_pos hl, decide_eq_true (show (0 : Int) < (x : Int) - 64 by omega)]
      walk_at "ev"
      rw [ixs hlen (show (x : Int) - 64 - 1 = ((x - 65 : Nat) : Int) by omega)]
      walk_at "ev"
      by_cases he : s.getD (x - 65) 0 = 1
      · rw [show (s.getD (x - 65) 0 == 1) = true from beq_iff_eq.mpr he]
        walk_at "ev"
        exact fin_pur rfl ⟨by rw [if_pos ⟨hl, he⟩], take_same S⟩
      · rw [show (s.getD (x - 65) 0 == 1) = false from beq_eq_false_iff_ne.mpr he]
        walk_at "ev"
        rw [Nx_nx]
        walk_at "ev"
        exact fin_pur rfl ⟨by rw [if_neg fun h => he h.2], take_same S⟩
    · rw [if_neg hl, decide_eq_false (show ¬ (0 : Int) < 0 by omega)]
      walk_at "ev"
      rw [Nx_nx]
      walk_at "ev"
      exact fin_pur rfl ⟨by rw [if_neg fun h => hl h.1], take_same S⟩
  by_cases hg : 49 ≤ x ∧ x ≤ 54
  · have hlen : x - 49 < s.length := by
      unfold dr at hd
      rw [if_pos hg] at hd
      omega
    rw [if_pos hg, decide_eq_true (show (0 : Int) < (x : Int) - 48 by omega)]
    walk_at "ev"
    rw [ixs hlen (show (x : Int) - 48 - 1 = ((x - 49 : Nat) : Int) by omega)]
    walk_at "ev"
    by_cases he : s.getD (x - 49) 0 = 0
    · rw [show (s.getD (x - 49) 0 == 0) = true from beq_iff_eq.mpr he]
      walk_at "ev"
      exact fin_pur rfl ⟨by rw [if_pos ⟨hg, he⟩], take_same S⟩
    · rw [show (s.getD (x - 49) 0 == 0) = false from beq_eq_false_iff_ne.mpr he]
      walk_at "ev"
      rw [Nx_nx]
      refine tail.mono fun fl S' q => ?_
      rwa [if_neg fun h => he h.2]
  · rw [if_neg hg, decide_eq_false (show ¬ (0 : Int) < 0 by omega)]
    walk_at "ev"
    rw [Nx_nx]
    refine tail.mono fun fl S' q => ?_
    rwa [if_neg fun h => hg h.1]
theorem lkind_sp {f : Nat} (h : P[f]? = some ⟨3, 5, tLKind⟩) (ok : OkP w p) {s : List Int} (hs : OkS p s) {c : Nat} (hc : c < w * p.length) : callN P g (n + 1) f [plD p, tI s, .int c] S = .ok (.str (kdS (chr p w c) s)) S := by
  have hd := chr_dr ok hs hc
  obtain ⟨l0, e0, e1⟩ := head_at ok
  obtain ⟨l, _, h1, h2, _⟩ := chr_at ok hc
  have hw := ok.w0
  have hw8 := ok.w8
  refine call_eq h rfl ?_
  simp only [tLKind]
  walk_at "ev"
  rw [ix_pl (k := 0) (i := (0 : Int)) e0 rfl]
  walk_at "ev"
  rw [len_str, e1]
  walk_at "ev"
  rw [Nx_nx]
  walk_at "ev"
  rw [v_fdiv (by omega) (by omega)]
  walk_at "ev"
  rw [ix_pl h1 (by rfl)]
  walk_at "ev"
  rw [v_mod (by omega)]
  walk_at "ev"
  rw [v_ixS (k := c % w) (by rfl) h2]
  walk_at "ev"
  generalize chr p w c = x at hd ⊢
  rw [Nx_nx]
  walk_at "ev"
  rw [v_eqS1 (z := "#") (b := 35) rfl]
  walk_at "ev"
  unfold kdS
  by_cases h1 : x = 35
  · rw [if_pos h1, decide_eq_true h1]
    walk_at "ev"
    exact fin_pur rfl ⟨rfl, take_same S⟩
  rw [if_neg h1, decide_eq_false h1]
  walk_at "ev"
  rw [Nx_nx]
  walk_at "ev"
  rw [v_eqS1 (z := "*") (b := 42) rfl]
  walk_at "ev"
  by_cases h2 : x = 42
  · rw [if_pos h2, decide_eq_true h2]
    walk_at "ev"
    exact fin_pur rfl ⟨rfl, take_same S⟩
  rw [if_neg h2, decide_eq_false h2]
  walk_at "ev"
  rw [Nx_nx]
  walk_at "ev"
  rw [v_eqS1 (z := "!") (b := 33) rfl]
  walk_at "ev"
  by_cases h3 : x = 33
  · rw [if_pos h3, decide_eq_true h3]
    walk_at "ev"
    exact fin_pur rfl ⟨rfl, take_same S⟩
  rw [if_neg h3, decide_eq_false h3]
  walk_at "ev"
  rw [Nx_nx]
  walk_at "ev"
  rw [inG]
  walk_at "ev"
  have ixs : ∀ {k : Nat} {i : Int}, k < s.length → i = (k : Int) → ixD (tI s) (.int i) S = some (.int (s.getD k 0)) := fun {k i} hk hi => v_ixI hi (by rw [List.getD_eq_getElem?_getD, List.getElem?_eq_getElem hk]; rfl)
  have tail : ∀ {o3 : Option D}, W (exec ⟨callN P g n, S.length, g⟩ (.seq (.ife (.and (.cmp .isin (.var 4) (.cs "ABCDEF")) (.cmp .eq (.ix (.var 1) (.bin .sub (.bi .ord (.cons (.var 4) .nil)) (.num 65))) (.num 1))) (.seq (.ret (.cs "hole")) .skip) .skip) (.seq (.ret (.cs "free")) .skip)) [some (plD p), some (tI s), some (.int c), o3, some (.str ⟨#[x]⟩)] S)
      (Fin S.length fun v S' => v = .str (if (65 ≤ x ∧ x ≤ 70) ∧ s.getD (x - 65) 0 = 1 then "hole" else "free") ∧ S' = S) := fun {o3} => by
    walk_at "ev"
    rw [inL]
    walk_at "ev"
    by_cases hl : 65 ≤ x ∧ x ≤ 70
    · have hlen : x - 65 < s.length := by
        unfold dr at hd
        rw [if_neg (by omega), if_pos hl] at hd
        omega
      rw [decide_eq_true hl]
      walk_at "ev"
      rw [v_ordS]
      walk_at "ev"
      rw [ixs hlen (show (x : Int) - 65 = ((x - 65 : Nat) : Int) by omega)]
      walk_at "ev"
      by_cases he : s.getD (x - 65) 0 = 1
      · rw [show (s.getD (x - 65) 0 == 1) = true from beq_iff_eq.mpr he]
        walk_at "ev"
        exact fin_pur rfl ⟨by rw [if_pos ⟨hl, he⟩], take_same S⟩
      · rw [show (s.getD (x - 65) 0 == 1) = false from beq_eq_false_iff_ne.mpr he]
        walk_at "ev"
        rw [Nx_nx]
        walk_at "ev"
        exact fin_pur rfl ⟨by rw [if_neg fun h => he h.2], take_same S⟩
    · rw [decide_eq_false hl]
      walk_at "ev"
      rw [Nx_nx]
      walk_at "ev"
      exact fin_pur rfl ⟨by rw [if_neg fun h => hl h.1], take_same S⟩
  by_cases hg : 49 ≤ x ∧ x ≤ 54
  · have hlen : x - 49 < s.length := by
      unfold dr at hd
      rw [if_pos hg] at hd
      omega
    rw [decide_eq_true hg]
    walk_at "ev"
    rw [v_intS (by omega) (by omega)]
    walk_at "ev"
    rw [ixs hlen (show (x : Int) - 48 - 1 = ((x - 49 : Nat) : Int) by omega)]
    walk_at "ev"
    by_cases he : s.getD (x - 49) 0 = 0
    · rw [show (s.getD (x - 49) 0 == 0) = true from beq_iff_eq.mpr he]
      walk_at "ev"
      exact fin_pur rfl ⟨by rw [if_pos ⟨hg, he⟩], take_same S⟩
    · rw [show (s.getD (x - 49) 0 == 0) = false from beq_eq_false_iff_ne.mpr he]
      walk_at "ev"
      rw [Nx_nx]
      refine tail.mono fun fl S' q => ?_
      rwa [if_neg fun h => he h.2]
  · rw [decide_eq_false hg]
    walk_at "ev"
    rw [Nx_nx]
    refine tail.mono fun fl S' q => ?_
    rwa [if_neg fun h => hg h.1]
/-! steps -/
def dn (d : Int) : Int := if d = 0 then -1 else if d = 2 then 1 else 0
def rt (d : Int) : Int := if d = 1 then 1 else if d = 3 then -1 else 0
def nxP (w h c : Nat) (d : Int) : Option Nat :=
  let l := ((c / w : Nat) : Int) + dn d
  let k := ((c % w : Nat) : Int) + rt d
  if (0 ≤ l ∧ l < h) ∧ (0 ≤ k ∧ k < w) then some (l * w + k).toNat else none
def oN : Option Nat → D
  | none => .non
  | some c => .int (c : Int)
theorem nxP_lt {h c c' : Nat} {d : Int} (e : nxP w h c d = some c') : c' < w * h := by
  unfold nxP at e
  dsimp only at e
  split at e
  · rename_i hh
    obtain ⟨⟨h1, h2⟩, h3, h4⟩ := hh
    cases e
    generalize ((c / w : Nat) : Int) + dn d = l at h1 h2
    generalize ((c % w : Nat) : Int) + rt d = k at h3 h4
    obtain ⟨l, rfl⟩ : ∃ i : Nat, l = i := ⟨l.toNat, by omega⟩
    obtain ⟨k, rfl⟩ : ∃ i : Nat, k = i := ⟨k.toNat, by omega⟩
    have h2 : l < h := by omega
    have h4 : k < w := by omega
    rw [show ((l : Int) * w + k).toNat = l * w + k by
      have : ((l : Int) * w + k) = ((l * w + k : Nat) : Int) := by push_cast; rfl
      rw [this, Int.toNat_natCast]]
    calc l * w + k < l * w + w := by omega
      _ = (l + 1) * w := by rw [Nat.succ_mul]
      _ ≤ h * w := Nat.mul_le_mul_right _ h2
      _ = w * h := Nat.mul_comm _ _
  · cases e
theorem dir4 {d : Int} (h0 : 0 ≤ d) (h4 : d < 4) : d = 0 ∨ d = 1 ∨ d = 2 ∨ d = 3 := by omega
theorem v_dn {d : Int} (h0 : 0 ≤ d) (h4 : d < 4) : ixD (.ctu [.int (-1), .int 0, .int 1, .int 0]) (.int d) S = some (.int (dn d)) := by
  rcases dir4 h0 h4 with rfl | rfl | rfl | rfl <;> rfl
theorem v_rt {d : Int} (h0 : 0 ≤ d) (h4 : d < 4) : ixD (.ctu [.int 0, .int 1, .int 0, .int (-1)]) (.int d) S = some (.int (rt d)) := by
  rcases dir4 h0 h4 with rfl | rfl | rfl | rfl <;> rfl
theorem len_pl : biD .len [plD p] S = .ok (.int p.length) S := by
  show R.ok (D.int ((p.map D.str).length : Nat)) S = _
  rw [List.length_map]
theorem le_ndlt (a b : Int) : (!decide (b < a)) = decide (a ≤ b) := not_dlt b a
theorem nextc_sp {f wd kd kr : Nat} (h : P[f]? = some ⟨3, 6, tNextC wd kd kr⟩) (hwd : P[wd]? = some ⟨1, 1, tWid⟩) (g1 : g kd = some (.ctu [.int (-1), .int 0, .int 1, .int 0])) (g2 : g kr = some (.ctu [.int 0, .int 1, .int 0, .int (-1)]))
    (ok : OkP w p) {c : Nat} {d : Int} (h0 : 0 ≤ d) (h4 : d < 4) : callN P g (n + 2) f [plD p, .int c, .int d] S = .ok (oN (nxP w p.length c d)) S := by
  have hw := ok.w0
  have hw8 := ok.w8
  refine call_eq h rfl ?_
  simp only [tNextC]
  walk_at "ev"
  rw [wid_sp (n := n) hwd ok]
  walk_at "ev"
  rw [Nx_nx]
  walk_at "ev"
  rw [v_fdiv (by omega) (by omega)]
  walk_at "ev"
  rw [g1]
  walk_at "ev"
  rw [v_dn h0 h4]
  walk_at "ev"
  rw [Nx_nx]
  walk_at "ev"
  rw [v_mod (by omega)]
  walk_at "ev"
  rw [g2]
  walk_at "ev"
  rw [v_rt h0 h4]
  walk_at "ev"
  rw [Nx_nx]
  walk_at "ev"
  rw [len_pl]
  walk_at "ev"
  unfold nxP
  dsimp only
  rw [show ((c : Int) / (w : Int)) = ((c / w : Nat) : Int) from rfl, show ((c : Int) % (w : Int)) = ((c % w : Nat) : Int) from rfl]
  generalize ((c / w : Nat) : Int) + dn d = l
  generalize ((c % w : Nat) : Int) + rt d = k
  rw [le_ndlt, le_ndlt]
  rw [show ((decide (0 ≤ l) && decide (l < (p.length : Int))) && (decide (0 ≤ k) && decide (k < (w : Int)))) = decide ((0 ≤ l ∧ l < p.length) ∧ (0 ≤ k ∧ k < w)) by simp]
  by_cases hh : (0 ≤ l ∧ l < p.length) ∧ (0 ≤ k ∧ k < w)
  · rw [decide_eq_true hh, if_pos hh]
    walk_at "ev"
    rw [v_mulR (by unfold small; omega)]
    walk_at "ev"
    refine fin_pur rfl ⟨?_, take_same S⟩
    show D.int _ = D.int _
    congr 1
    have : 0 ≤ l * w := Int.mul_nonneg hh.1.1 (by omega)
    omega
  · rw [decide_eq_false hh, if_neg hh]
    walk_at "ev"
    rw [Nx_nx]
    walk_at "ev"
    exact fin_pur rfl ⟨rfl, take_same S⟩
theorem lnext_sp {f : Nat} (h : P[f]? = some ⟨3, 6, tLNext⟩) (ok : OkP w p) {c : Nat} {d : Int} (h0 : 0 ≤ d) (h4 : d < 4) : callN P g (n + 1) f [plD p, .int c, .int d] S = .ok (oN (nxP w p.length c d)) S := by
  have hw := ok.w0
  have hw8 := ok.w8
  obtain ⟨l0, e0, e1⟩ := head_at ok
  have b2 : b2i (d == 2) - b2i (d == 0) = dn d := by rcases dir4 h0 h4 with rfl | rfl | rfl | rfl <;> rfl
  have b1 : b2i (d == 1) - b2i (d == 3) = rt d := by rcases dir4 h0 h4 with rfl | rfl | rfl | rfl <;> rfl
  refine call_eq h rfl ?_
  simp only [tLNext]
  walk_at "ev"
  rw [ix_pl (k := 0) (i := (0 : Int)) e0 rfl]
  walk_at "ev"
  rw [len_str, e1]
  walk_at "ev"
  rw [Nx_nx]
  walk_at "ev"
  rw [v_fdiv (by omega) (by omega)]
  walk_at "ev"
  rw [Nx_nx]
  walk_at "ev"
  rw [v_mod (by omega)]
  walk_at "ev"
  rw [Nx_nx]
  walk_at "ev"
  rw [len_pl]
  walk_at "ev"
  unfold nxP
  dsimp only
  rw [show ((c : Int) / (w : Int)) = ((c / w : Nat) : Int) from rfl, show ((c : Int) % (w : Int)) = ((c % w : Nat) : Int) from rfl]
  rw [Int.add_sub_assoc, Int.add_sub_assoc, b2, b1]
  generalize ((c / w : Nat) : Int) + dn d = l
  generalize ((c % w : Nat) : Int) + rt d = k
  rw [le_ndlt, le_ndlt]
  rw [show ((decide (0 ≤ l) && decide (l < (p.length : Int))) && (decide (0 ≤ k) && decide (k < (w : Int)))) = decide ((0 ≤ l ∧ l < p.length) ∧ (0 ≤ k ∧ k < w)) by simp]
  by_cases hh : (0 ≤ l ∧ l < p.length) ∧ (0 ≤ k ∧ k < w)
  · rw [decide_eq_true hh, if_pos hh]
    walk_at "ev"
    rw [v_mulR (by unfold small; omega)]
    walk_at "ev"
    refine fin_pur rfl ⟨?_, take_same S⟩
    show D.int _ = D.int _
    congr 1
    have : 0 ≤ l * w := Int.mul_nonneg hh.1.1 (by omega)
    omega
  · rw [decide_eq_false hh, if_neg hh]
    walk_at "ev"
    rw [Nx_nx]
    walk_at "ev"
    exact fin_pur rfl ⟨rfl, take_same S⟩
/-! walks -/
def tTurned : T := (.seq (.ret (.bin .mod (.bi .int (.cons (.bin .add (.var 0) (.var 1)) .nil)) (.num 4))) .skip)
def tWalked (nc kd tu : Nat) : T := (.seq (.set 5 (.tup (.cons (.var 2) .nil))) (.seq (.for_ [6] (.var 4) (.seq (.set 7 (.call nc (.cons (.var 0) (.cons (.ix (.var 5) (.neg (.num 1))) (.cons (.call tu (.cons (.var 3) (.cons (.var 6) .nil))) .nil))))) (.seq (.ife (.isN (.var 7)) (.seq (.ret (.tup (.cons (.cs "end") (.cons (.var 5) (.cons (.num 1) .nil))))) .skip) .skip) (.seq (.set 8 (.call kd (.cons (.var 0) (.cons (.var 1) (.cons (.var 7) .nil))))) (.seq (.ife (.cmp .eq (.var 8) (.cs "wall")) (.seq (.ret (.tup (.cons (.cs "end") (.cons (.var 5) (.cons (.num 1) .nil))))) .skip) .skip) (.seq (.set 5 (.bin .add (.var 5) (.tup (.cons (.var 7) .nil)))) (.seq (.ife (.cmp .ne (.var 8) (.cs "free")) (.seq (.ret (.tup (.cons (.cs "touch") (.cons (.var 5) .nil)))) .skip) .skip) .skip))))))) (.seq (.ret (.tup (.cons (.cs "end") (.cons (.var 5) (.cons (.num 0) .nil))))) .skip)))
def tWalk (ln lk : Nat) : T := (.seq (.set 5 (.tup (.cons (.var 2) .nil))) (.seq (.for_ [6] (.var 4) (.seq (.set 7 (.call ln (.cons (.var 0) (.cons (.ix (.var 5) (.neg (.num 1))) (.cons (.bin .mod (.bi .int (.cons (.bin .add (.var 3) (.var 6)) .nil)) (.num 4)) .nil))))) (.seq (.set 8 (.cs "wall")) (.seq (.ife (.notN (.var 7)) (.seq (.set 8 (.call lk (.cons (.var 0) (.cons (.var 1) (.cons (.var 7) .nil))))) .skip) .skip) (.seq (.ife (.cmp .eq (.var 8) (.cs "wall")) (.seq (.ret (.tup (.cons (.cb false) (.cons (.var 5) (.cons (.num 1) .nil))))) .skip) .skip) (.seq (.set 5 (.bin .add (.var 5) (.tup (.cons (.var 7) .nil)))) (.seq (.ife (.cmp .ne (.var 8) (.cs "free")) (.seq (.ret (.tup (.cons (.cb true) (.cons (.var 5) (.cons (.num 0) .nil))))) .skip) .skip) .skip))))))) (.seq (.ret (.tup (.cons (.cb false) (.cons (.var 5) (.cons (.num 0) .nil))))) .skip)))
def nI (l : List Nat) : List Int := l.map fun (k : Nat) => (k : Int)
def tN (l : List Nat) : D := tI (nI l)
def lastN (l : List Nat) : Nat := l.getLast?.getD 0
/-- what going a trail ends in: touched, the way, bumped -/
def wk (p : Pl) (w : Nat) (s : List Int) (d : Int) : List Int → List Nat → Bool × List Nat × Int
  | [], way => (false, way, 0)
  | t :: r, way => match nxP w p.length (lastN way) ((d + t) % 4) with
    | none => (false, way, 1)
    | some o => if (kdS (chr p w o) s == "wall") = true then (false, way, 1) else if (kdS (chr p w o) s == "free") = true then wk p w s d r (way ++ [o]) else (true, way ++ [o], 0)
def wkD (r : Bool × List Nat × Int) : D := if r.1 = true then .tup [.str "touch", tN r.2.1] else .tup [.str "end", tN r.2.1, .int r.2.2]
def wkL (r : Bool × List Nat × Int) : D := .tup [.bl r.1, tN r.2.1, .int r.2.2]
theorem pur_tN (l : List Nat) : (tN l).pur = true := pur_tI _
theorem pur_wkD (r : Bool × List Nat × Int) : (wkD r).pur = true := by
  unfold wkD
  split
  · show (true && ((tN r.2.1).pur && true)) = true
    rw [pur_tN]; rfl
  · show (true && ((tN r.2.1).pur && (true && true))) = true
    rw [pur_tN]; rfl
theorem pur_wkL (r : Bool × List Nat × Int) : (wkL r).pur = true := by
  show (true && ((tN r.2.1).pur && (true && true))) = true
  rw [pur_tN]; rfl
theorem v_lastN {l : List Nat} (h : l ≠ []) : ixD (tN l) (.int (-1)) S = some (.int (lastN l : Nat)) := by
  have e := List.getLast?_eq_some_getLast h
  refine v_ixIlast ?_
  unfold nI lastN
  rw [List.getLast?_map, e]
  rfl
theorem v_snocN {l : List Nat} {o : Nat} (h : l.length < 1000) : binD .add (tN l) (.tup [.int (o : Int)]) S = .ok (tN (l ++ [o])) S := by
  unfold tN nI
  rw [v_snoc (by rw [List.length_map]; exact h), List.map_append]
  rfl
theorem lastN_snoc (l : List Nat) (o : Nat) : lastN (l ++ [o]) = o := by unfold lastN; simp
theorem turned_sp {f : Nat} (h : P[f]? = some ⟨2, 2, tTurned⟩) {d t : Int} : callN P g (n + 1) f [.int d, .int t] S = .ok (.int ((d + t) % 4)) S := by
  refine call_eq h rfl ?_
  simp only [tTurned]
  walk_at "ev"
  rw [v_mod (by omega)]
  walk_at "ev"
  exact fin_pur rfl ⟨rfl, take_same S⟩
theorem pur_end {z : Str} {l : List Nat} {k : Int} : (D.tup [.str z, tN l, .int k]).pur = true := by
  show (true && ((tN l).pur && (true && true))) = true
  rw [pur_tN]; rfl
theorem pur_tou {z : Str} {l : List Nat} : (D.tup [.str z, tN l]).pur = true := by
  show (true && ((tN l).pur && true)) = true
  rw [pur_tN]; rfl
theorem pur_wl {z : Bool} {l : List Nat} {k : Int} : (D.tup [.bl z, tN l, .int k]).pur = true := by
  show (true && ((tN l).pur && (true && true))) = true
  rw [pur_tN]; rfl
theorem walked_sp {f nc kd tu ch gd ld ob wd k1 k2 k3 k4 : Nat} (h : P[f]? = some ⟨5, 9, tWalked nc kd tu⟩) (hnc : P[nc]? = some ⟨3, 6, tNextC wd k3 k4⟩) (hkd : P[kd]? = some ⟨3, 6, tKind ch gd ld ob⟩) (htu : P[tu]? = some ⟨2, 2, tTurned⟩)
    (hch : P[ch]? = some ⟨2, 3, tChar wd⟩) (hwd : P[wd]? = some ⟨1, 1, tWid⟩) (hgd : P[gd]? = some ⟨1, 1, tDoor k1⟩) (hld : P[ld]? = some ⟨1, 1, tDoor k2⟩)
    (g1 : g k1 = some (.str "123456")) (g2 : g k2 = some (.str "ABCDEF")) (g3 : g ob = some (.cdc obs)) (g4 : g k3 = some (.ctu [.int (-1), .int 0, .int 1, .int 0])) (g5 : g k4 = some (.ctu [.int 0, .int 1, .int 0, .int (-1)]))
    (ok : OkP w p) {s : List Int} (hs : OkS p s) {c : Nat} {d : Int} {t : List Int} (htl : t.length ≤ 100) :
    callN P g (n + 4) f [plD p, tI s, .int c, .int d, tI t] S = .ok (wkD (wk p w s d t [c])) S := by
  refine call_eq h rfl ?_
  simp only [tWalked]
  walk_at "ev"
  rw [Nx_nx]
  walk_at "ev"
  refine W_forM (fun dn ρ S' => ∃ way o6 o7 o8, S = S' ∧ ρ = [some (plD p), some (tI s), some (.int (c : Int)), some (.int d), some (tI t), some (tN way), o6, o7, o8] ∧ way.length = dn.length + 1 ∧ ∀ r, t = dn ++ r → wk p w s d r way = wk p w s d t [c]) ⟨[c], _, _, _, rfl, rfl, rfl, fun r hr => by rw [show t = r from hr]⟩ (fun _ _ _ _ => good_nil _)
    (fun dn x rest ρ S' e ⟨way, o6, o7, o8, h1, h2, h3, h4⟩ => ?_) fun ρ S' ⟨way, o6, o7, o8, h1, h2, h3, h4⟩ => ?_
  · subst h1 h2
    have hwk := h4 _ e
    have hne : way ≠ [] := by rintro rfl; cases h3
    have hdl : dn.length < 100 := by
      have := congrArg List.length e
      rw [List.length_append, List.length_cons] at this
      omega
    rw [W_turn1]
    walk_at "ev"
    rw [v_lastN hne]
    walk_at "ev"
    rw [turned_sp (n := n + 2) htu]
    walk_at "ev"
    rw [nextc_sp (n := n + 1) hnc hwd g4 g5 ok (Int.emod_nonneg _ (by omega)) (Int.emod_lt_of_pos _ (by omega))]
    walk_at "ev"
    rw [Nx_nx]
    rw [wk] at hwk
    cases hn : nxP w p.length (lastN way) ((d + x) % 4) with
    | none =>
      rw [hn] at hwk
      simp only [oN]
      walk_at "ev"
      refine fin_pur (by first | exact pur_end | exact pur_tou) ⟨?_, take_same S⟩
      rw [← hwk]
      rfl
    | some o =>
      rw [hn] at hwk
      dsimp only at hwk
      have ho := nxP_lt hn
      simp only [oN]
      walk_at "ev"
      rw [Nx_nx]
      walk_at "ev"
      rw [kind_sp (n := n) hkd hch hwd hgd hld g1 g2 g3 ok hs ho]
      generalize kdS (chr p w o) s = k at hwk ⊢
      walk_at "ev"
      rw [Nx_nx]
      walk_at "ev"
      rw [v_eqStr]
      walk_at "ev"
      cases hw : (k == ("wall" : Str)) with
      | true =>
        rw [if_pos hw] at hwk
        walk_at "ev"
        refine fin_pur (by first | exact pur_end | exact pur_tou) ⟨?_, take_same S⟩
        rw [← hwk]
        rfl
      | false =>
        rw [if_neg (by rw [hw]; decide)] at hwk
        walk_at "ev"
        rw [Nx_nx]
        walk_at "ev"
        rw [v_snocN (by omega)]
        walk_at "ev"
        rw [Nx_nx]
        walk_at "ev"
        rw [v_neStr]
        walk_at "ev"
        cases hf : (k == ("free" : Str)) with
        | true =>
          rw [if_pos hf] at hwk
          walk_at "ev"
          rw [Nx_nx]
          walk_at "ev"
          refine ⟨way ++ [o], _, _, _, trivial, rfl, by rw [List.length_append, h3, List.length_append]; rfl, fun r hr => ?_⟩
          have : r = rest := by
            have e9 : dn ++ (x :: rest) = dn ++ (x :: r) := by rw [← e, hr]; simp
            exact (List.cons.inj (List.append_cancel_left e9)).2.symm
          rw [this]
          exact hwk
        | false =>
          rw [if_neg (by rw [hf]; decide)] at hwk
          walk_at "ev"
          refine fin_pur (by first | exact pur_end | exact pur_tou) ⟨?_, take_same S⟩
          rw [← hwk]
          rfl
  · subst h1 h2
    have hwk := h4 [] (by simp)
    rw [wk] at hwk
    rw [Nx_nx]
    walk_at "ev"
    refine fin_pur (by first | exact pur_end | exact pur_tou) ⟨?_, take_same S⟩
    rw [← hwk]
    rfl
theorem walk_sp {f ln lk : Nat} (h : P[f]? = some ⟨5, 9, tWalk ln lk⟩) (hln : P[ln]? = some ⟨3, 6, tLNext⟩) (hlk : P[lk]? = some ⟨3, 5, tLKind⟩)
    (ok : OkP w p) {s : List Int} (hs : OkS p s) {c : Nat} {d : Int} {t : List Int} (htl : t.length ≤ 100) :
    callN P g (n + 2) f [plD p, tI s, .int c, .int d, tI t] S = .ok (wkL (wk p w s d t [c])) S := by
  refine call_eq h rfl ?_
  simp only [tWalk]
  walk_at "ev"
  rw [Nx_nx]
  walk_at "ev"
  refine W_forM (fun dn ρ S' => ∃ way o6 o7 o8, S = S' ∧ ρ = [some (plD p), some (tI s), some (.int (c : Int)), some (.int d), some (tI t), some (tN way), o6, o7, o8] ∧ way.length = dn.length + 1 ∧ ∀ r, t = dn ++ r → wk p w s d r way = wk p w s d t [c]) ⟨[c], _, _, _, rfl, rfl, rfl, fun r hr => by rw [show t = r from hr]⟩ (fun _ _ _ _ => good_nil _)
    (fun dn x rest ρ S' e ⟨way, o6, o7, o8, h1, h2, h3, h4⟩ => ?_) fun ρ S' ⟨way, o6, o7, o8, h1, h2, h3, h4⟩ => ?_
  · subst h1 h2
    have hwk := h4 _ e
    have hne : way ≠ [] := by rintro rfl; cases h3
    have hdl : dn.length < 100 := by
      have := congrArg List.length e
      rw [List.length_append, List.length_cons] at this
      omega
    rw [W_turn1]
    walk_at "ev"
    rw [v_lastN hne]
    walk_at "ev"
    rw [v_mod (by omega)]
    walk_at "ev"
    rw [lnext_sp (n := n) hln ok (Int.emod_nonneg _ (by omega)) (Int.emod_lt_of_pos _ (by omega))]
    walk_at "ev"
    rw [Nx_nx]
    walk_at "ev"
    rw [Nx_nx]
    rw [wk] at hwk
    cases hn : nxP w p.length (lastN way) ((d + x) % 4) with
    | none =>
      rw [hn] at hwk
      simp only [oN]
      walk_at "ev"
      rw [Nx_nx]
      walk_at "ev"
      rw [v_eqStr, beq_self_eq_true]
      walk_at "ev"
      refine fin_pur pur_wl ⟨?_, take_same S⟩
      rw [← hwk]
      rfl
    | some o =>
      rw [hn] at hwk
      dsimp only at hwk
      have ho := nxP_lt hn
      simp only [oN]
      walk_at "ev"
      rw [lkind_sp (n := n) hlk ok hs ho]
      generalize kdS (chr p w o) s = k at hwk ⊢
      walk_at "ev"
      rw [Nx_nx]
      walk_at "ev"
      rw [Nx_nx]
      walk_at "ev"
      rw [v_eqStr]
      walk_at "ev"
      cases hw : (k == ("wall" : Str)) with
      | true =>
        rw [if_pos hw] at hwk
        walk_at "ev"
        refine fin_pur pur_wl ⟨?_, take_same S⟩
        rw [← hwk]
        rfl
      | false =>
        rw [if_neg (by rw [hw]; decide)] at hwk
        walk_at "ev"
        rw [Nx_nx]
        walk_at "ev"
        rw [v_snocN (by omega)]
        walk_at "ev"
        rw [Nx_nx]
        walk_at "ev"
        rw [v_neStr]
        walk_at "ev"
        cases hf : (k == ("free" : Str)) with
        | true =>
          rw [if_pos hf] at hwk
          walk_at "ev"
          rw [Nx_nx]
          walk_at "ev"
          refine ⟨way ++ [o], _, _, _, trivial, rfl, by rw [List.length_append, h3, List.length_append]; rfl, fun r hr => ?_⟩
          have : r = rest := by
            have e9 : dn ++ (x :: rest) = dn ++ (x :: r) := by rw [← e, hr]; simp
            exact (List.cons.inj (List.append_cancel_left e9)).2.symm
          rw [this]
          exact hwk
        | false =>
          rw [if_neg (by rw [hf]; decide)] at hwk
          walk_at "ev"
          refine fin_pur pur_wl ⟨?_, take_same S⟩
          rw [← hwk]
          rfl
  · subst h1 h2
    have hwk := h4 [] (by simp)
    rw [wk] at hwk
    rw [Nx_nx]
    walk_at "ev"
    refine fin_pur pur_wl ⟨?_, take_same S⟩
    rw [← hwk]
    rfl
/-! doors, free cells -/
def tDoors : T := (.seq (.set 1 (.num 0)) (.seq (.for_ [2] (.var 0) (.seq (.for_ [3] (.var 2) (.seq (.ife (.cmp .isin (.var 3) (.cs "123456")) (.seq (.set 1 (.bi .max (.cons (.var 1) (.cons (.bi .int (.cons (.var 3) .nil)) .nil)))) .skip) .skip) (.seq (.ife (.cmp .isin (.var 3) (.cs "ABCDEF")) (.seq (.set 1 (.bi .max (.cons (.var 1) (.cons (.bin .sub (.bi .ord (.cons (.var 3) .nil)) (.num 64)) .nil)))) .skip) .skip) .skip))) .skip)) (.seq (.ret (.var 1)) .skip)))
def tFree (lk : Nat) : T := (.seq (.set 2 (.lst .nil)) (.seq (.for_ [3] (.range1 (.bin .mul (.bi .len (.cons (.var 0) .nil)) (.bi .len (.cons (.ix (.var 0) (.num 0)) .nil)))) (.seq (.ife (.bi .any (.cons (.comp [4] (.var 1) .nil (.cmp .eq (.call lk (.cons (.var 0) (.cons (.var 4) (.cons (.var 3) .nil)))) (.cs "free"))) .nil)) (.seq (.expr (.meth .append (.var 2) (.cons (.var 3) .nil))) .skip) .skip) .skip)) (.seq (.ret (.tupOf (.var 2))) .skip)))
def lnD (m : Nat) (l : Str) : Nat := l.cps.toList.foldl (fun m c => max m (dr c)) m
def doorsP (p : Pl) : Nat := p.foldl lnD 0
theorem dr6 (c : Nat) : dr c ≤ 6 := by unfold dr; split <;> (try split) <;> omega
theorem fold_le {b : Nat} : ∀ (l : List Nat) (m : Nat), m ≤ b → (∀ c ∈ l, dr c ≤ b) → l.foldl (fun m c => max m (dr c)) m ≤ b
  | [], m, h, _ => h
  | c :: l, m, h, hl => fold_le l _ (Nat.max_le.mpr ⟨h, hl c List.mem_cons_self⟩) fun x hx => hl x (List.mem_cons_of_mem _ hx)
theorem fold_ge : ∀ (l : List Nat) (m : Nat), m ≤ l.foldl (fun m c => max m (dr c)) m ∧ ∀ c ∈ l, dr c ≤ l.foldl (fun m c => max m (dr c)) m
  | [], m => ⟨Nat.le_refl _, fun c h => by cases h⟩
  | x :: l, m => by
    obtain ⟨h1, h2⟩ := fold_ge l (max m (dr x))
    rw [List.foldl_cons]
    refine ⟨Nat.le_trans (Nat.le_max_left _ _) h1, fun c hc => ?_⟩
    rcases List.mem_cons.mp hc with rfl | hc
    · exact Nat.le_trans (Nat.le_max_right _ _) h1
    · exact h2 c hc
theorem doors_le {b : Nat} (h : ∀ l ∈ p, ∀ c ∈ l.cps.toList, dr c ≤ b) : doorsP p ≤ b := by
  unfold doorsP
  have : ∀ (q : Pl) (m : Nat), m ≤ b → (∀ l ∈ q, ∀ c ∈ l.cps.toList, dr c ≤ b) → q.foldl lnD m ≤ b := by
    intro q
    induction q with
    | nil => exact fun m h _ => h
    | cons l q ih => exact fun m hm hq => ih _ (fold_le _ _ hm (hq l List.mem_cons_self)) fun x hx => hq x (List.mem_cons_of_mem _ hx)
  exact this p 0 (Nat.zero_le _) h
theorem doors_ge : ∀ l ∈ p, ∀ c ∈ l.cps.toList, dr c ≤ doorsP p := by
  unfold doorsP
  have : ∀ (q : Pl) (m : Nat), m ≤ q.foldl lnD m ∧ ∀ l ∈ q, ∀ c ∈ l.cps.toList, dr c ≤ q.foldl lnD m := by
    intro q
    induction q with
    | nil => exact fun m => ⟨Nat.le_refl _, fun l h => by cases h⟩
    | cons x q ih =>
      intro m
      obtain ⟨h1, h2⟩ := ih (lnD m x)
      obtain ⟨h3, h4⟩ := fold_ge x.cps.toList m
      rw [List.foldl_cons]
      refine ⟨Nat.le_trans h3 h1, fun l hl c hc => ?_⟩
      rcases List.mem_cons.mp hl with rfl | hl
      · exact Nat.le_trans (h4 c hc) h1
      · exact h2 l hl c hc
  exact (this p 0).2
theorem doors6 (p : Pl) : doorsP p ≤ 6 := doors_le fun _ _ c _ => dr6 c
theorem okS_doors {s : List Int} (h : doorsP p ≤ s.length) : OkS p s := fun l hl c hc => Nat.le_trans (doors_ge l hl c hc) h
theorem v_maxI {i j : Nat} : biD .max [.int (i : Int), .int (j : Int)] S = .ok (.int ((max i j : Nat) : Int)) S := by
  show R.ok (D.int (if (j : Int) > i then (j : Int) else i)) S = _
  congr 2
  split <;> omega
theorem doors_sp {f : Nat} (h : P[f]? = some ⟨1, 4, tDoors⟩) : callN P g (n + 1) f [plD p] S = .ok (.int (doorsP p)) S := by
  refine call_eq h rfl ?_
  simp only [tDoors]
  walk_at "ev"
  rw [Nx_nx]
  unfold plD
  walk_at "ev"
  refine W_forM (fun dn ρ S' => ∃ o2 o3, S = S' ∧ ρ = [some (.tup (p.map .str)), some (.int ((dn.foldl lnD 0 : Nat) : Int)), o2, o3]) ⟨_, _, rfl, rfl⟩ (fun _ _ _ _ => good_nil _) (fun dn l rest ρ S' e ⟨o2, o3, h1, h2⟩ => ?_) fun ρ S' ⟨o2, o3, h1, h2⟩ => ?_
  · subst h1 h2
    rw [W_turn1]
    walk_at "ev"
    unfold signs
    generalize hm : dn.foldl lnD 0 = m
    refine W_forM (fun d2 ρ S' => ∃ o3, S = S' ∧ ρ = [some (.tup (p.map .str)), some (.int ((d2.foldl (fun m c => max m (dr c)) m : Nat) : Int)), some (.str l), o3]) ⟨_, rfl, rfl⟩ (fun _ _ _ _ => good_nil _) (fun d2 c rest2 ρ S' e2 ⟨o3, h1, h2⟩ => ?_) fun ρ S' ⟨o3, h1, h2⟩ => ?_
    · subst h1 h2
      rw [W_turn1]
      walk_at "ev"
      rw [inG]
      generalize hm2 : d2.foldl (fun m c => max m (dr c)) m = m2
      have e3 : (d2 ++ [c]).foldl (fun m c => max m (dr c)) m = max m2 (dr c) := by rw [List.foldl_append, hm2]; rfl
      rw [e3]
      walk_at "ev"
      by_cases hg : 49 ≤ c ∧ c ≤ 54
      · have hd : dr c = c - 48 := by unfold dr; rw [if_pos hg]
        rw [decide_eq_true hg]
        walk_at "ev"
        rw [v_intS (by omega) (by omega)]
        walk_at "ev"
        rw [show (c : Int) - 48 = ((c - 48 : Nat) : Int) by omega, v_maxI]
        walk_at "ev"
        rw [Nx_nx]
        walk_at "ev"
        rw [Nx_nx]
        walk_at "ev"
        rw [inL, decide_eq_false (show ¬ (65 ≤ c ∧ c ≤ 70) by omega)]
        walk_at "ev"
        rw [Nx_nx]
        walk_at "ev"
        exact ⟨_, trivial, by rw [hd]⟩
      · rw [decide_eq_false hg]
        walk_at "ev"
        rw [Nx_nx]
        walk_at "ev"
        rw [inL]
        walk_at "ev"
        by_cases hl : 65 ≤ c ∧ c ≤ 70
        · have hd : dr c = c - 64 := by unfold dr; rw [if_neg hg, if_pos hl]
          rw [decide_eq_true hl]
          walk_at "ev"
          rw [v_ordS]
          walk_at "ev"
          rw [show (c : Int) - 64 = ((c - 64 : Nat) : Int) by omega, v_maxI]
          walk_at "ev"
          rw [Nx_nx]
          walk_at "ev"
          rw [Nx_nx]
          walk_at "ev"
          exact ⟨_, trivial, by rw [hd]⟩
        · have hd : dr c = 0 := by unfold dr; rw [if_neg hg, if_neg hl]
          rw [decide_eq_false hl]
          walk_at "ev"
          rw [Nx_nx]
          walk_at "ev"
          exact ⟨_, trivial, by rw [hd, Nat.max_eq_left (Nat.zero_le _)]⟩
    · subst h1 h2
      rw [Nx_nx]
      walk_at "ev"
      refine ⟨some (.str l), o3, trivial, ?_⟩
      rw [List.foldl_append, hm]
      rfl
  · subst h1 h2
    rw [Nx_nx]
    walk_at "ev"
    exact fin_pur rfl ⟨rfl, take_same S⟩
def frees (p : Pl) (w : Nat) (ss : List (List Int)) : List Nat := (List.range (w * p.length)).filter fun c => ss.any fun s => kdS (chr p w c) s == "free"
theorem rangeP {m : Nat} (h : m ≤ 100000) : rangeSrc (.int 0) (.int m) = some ⟨(List.range m).map fun (k : Nat) => D.int (k : Int), []⟩ := by
  rw [v_rangeB h]
  unfold rI
  rw [List.map_map]
  rfl
theorem size64 (ok : OkP w p) : w * p.length ≤ 64 := by
  have h1 := ok.w8
  have h2 := ok.h8
  exact Nat.le_trans (Nat.mul_le_mul h1 h2) (by decide)
theorem range_spl {r : Nat} {dn rest : List Nat} {x : Nat} (e : List.range r = dn ++ x :: rest) : x < r ∧ dn.length < r := by
  have hl := congrArg List.length e
  rw [List.length_range, List.length_append, List.length_cons] at hl
  have : x ∈ List.range r := by rw [e]; simp
  exact ⟨List.mem_range.mp this, by omega⟩
theorem free_sp {f lk : Nat} (h : P[f]? = some ⟨2, 5, tFree lk⟩) (hlk : P[lk]? = some ⟨3, 5, tLKind⟩) (ok : OkP w p) {ss : List (List Int)} (hs : ∀ s ∈ ss, OkS p s) : callN P g (n + 2) f [plD p, .tup (ss.map tI)] S = .ok (tN (frees p w ss)) S := by
  obtain ⟨l0, e0, e1⟩ := head_at ok
  have h64 := size64 ok
  have hw8 := ok.w8
  refine call_eq h rfl ?_
  simp only [tFree]
  walk_at "ev"
  rw [Nx_nx]
  walk_at "ev"
  rw [len_pl]
  walk_at "ev"
  rw [ix_pl (k := 0) (i := (0 : Int)) e0 rfl]
  walk_at "ev"
  rw [len_str, e1]
  walk_at "ev"
  rw [v_mulR (by unfold small; omega)]
  walk_at "ev"
  rw [show (p.length : Int) * (w : Int) = ((w * p.length : Nat) : Int) by rw [Nat.mul_comm]; push_cast; rfl, rangeP (by omega)]
  walk_at "ev"
  refine W_forM (fun dn ρ S' => ∃ T o3 o4, S' = S ++ O.lst ((dn.filter fun c => ss.any fun s => kdS (chr p w c) s == "free").map fun (k : Nat) => D.int (k : Int)) :: T ∧ ρ = [some (plD p), some (.tup (ss.map tI)), some (.ref S.length), o3, o4]) ⟨[], _, _, rfl, rfl⟩ (fun _ _ _ _ => good_nil _) (fun dn c rest ρ S' e ⟨T, o3, o4, h1, h2⟩ => ?_) fun ρ S' ⟨T, o3, o4, h1, h2⟩ => ?_
  · subst h1 h2
    obtain ⟨hc, hdl⟩ := range_spl e
    rw [W_turn1]
    walk_at "ev"
    refine W_compM (fun s => D.bl (kdS (chr p w c) s == "free")) (good_nil _) (fun s hss => ?_) ?_
    · walk_at "ev"
      rw [lkind_sp (n := n) hlk ok (hs s hss) hc]
      walk_at "ev"
      rw [v_eqStr]
      walk_at "ev"
    · walk_at "ev"
      rw [any_true (ls := ss) (fun s => kdS (chr p w c) s == "free") (getN _ _ []) fun _ _ => rfl]
      walk_at "ev"
      rw [List.append_assoc, List.cons_append]
      cases hb : ss.any fun s => kdS (chr p w c) s == "free" with
      | false =>
        walk_at "ev"
        rw [Nx_nx]
        walk_at "ev"
        refine ⟨T ++ [O.lst (ss.map fun s => D.bl (kdS (chr p w c) s == "free"))], some (.int (c : Int)), o4, ?_, rfl⟩
        rw [List.filter_append, List.filter_cons, if_neg (by rw [hb]; decide), List.filter_nil, List.append_nil]
      | true =>
        walk_at "ev"
        rw [mtOk_l (getN S _ _)]
        walk_at "ev"
        rw [v_app (getN S _ _) (by rw [List.length_map]; have := List.length_filter_le (fun c => ss.any fun s => kdS (chr p w c) s == "free") dn; unfold sizeMax; omega) rfl, setN]
        walk_at "ev"
        rw [Nx_nx]
        walk_at "ev"
        rw [Nx_nx]
        walk_at "ev"
        refine ⟨T ++ [O.lst (ss.map fun s => D.bl (kdS (chr p w c) s == "free"))], some (.int (c : Int)), o4, ?_, rfl⟩
        rw [List.filter_append, List.filter_cons, if_pos hb, List.map_append]
        rfl
  · subst h1 h2
    rw [Nx_nx]
    walk_at "ev"
    rw [sr_ref (getN S _ _)]
    walk_at "ev"
    have e9 : (D.tup ((frees p w ss).map fun (k : Nat) => D.int (k : Int))) = tN (frees p w ss) := by
      unfold tN tI nI
      rw [List.map_map]
      rfl
    rw [show (List.filter (fun c => ss.any fun s => kdS (chr p w c) s == "free") (List.range (w * p.length))) = frees p w ss from rfl, e9]
    exact fin_pur (pur_tN _) ⟨rfl, take_self S _⟩
end
/-! drawn plans -/
section
variable {P : List Fn} {g : Nat → Option D} {n dw : Nat} {w : Nat} {p : Pl} {cells : List Int} {a b s : Int} {L : Sto}
def tFloor (dw ra pi : Nat) : T := (.seq (.set 1 (.bin .add (.num 1) (.call dw (.cons (.var 0) (.cons (.num 3) .nil))))) (.seq (.set 2 (.bin .add (.num 1) (.call dw (.cons (.var 0) (.cons (.num 4) .nil))))) (.seq (.ife (.call ra (.cons (.var 0) (.cons (.num 8) .nil))) (.seq (.set 1 (.bin .add (.num 1) (.call dw (.cons (.var 0) (.cons (.num 8) .nil))))) (.seq (.set 2 (.bin .add (.num 1) (.call dw (.cons (.var 0) (.cons (.num 8) .nil))))) .skip)) .skip) (.seq (.set 3 (.call pi (.cons (.var 0) (.cons (.lst (.cons (.cs "......,,+ab1A#*!") (.cons (.cs "....,+abcdefgh123456ABCDEF#*!") (.cons (.cs "..,,1122AABB##**!!") (.cons (.cs "...........,,,,6F#") .nil))))) .nil)))) (.seq (.set 4 (.lst .nil)) (.seq (.for_ [5] (.range1 (.var 1)) (.seq (.expr (.meth .append (.var 4) (.cons (.bi .join (.cons (.cs "") (.cons (.comp [6] (.range1 (.var 2)) .nil (.call pi (.cons (.var 0) (.cons (.var 3) .nil)))) .nil))) .nil))) .skip)) (.seq (.ret (.tupOf (.var 4))) .skip)))))))
def tFloorB (dw pi : Nat) : T := (.seq (.set 3 (.call pi (.cons (.var 0) (.cons (.lst (.cons (.cs "......,,+ab1A#*!") (.cons (.cs "....,+abcdefgh123456ABCDEF#*!") (.cons (.cs "..,,1122AABB##**!!") (.cons (.cs "...........,,,,6F#") .nil))))) .nil)))) (.seq (.set 4 (.lst .nil)) (.seq (.for_ [5] (.range1 (.var 1)) (.seq (.expr (.meth .append (.var 4) (.cons (.bi .join (.cons (.cs "") (.cons (.comp [6] (.range1 (.var 2)) .nil (.call pi (.cons (.var 0) (.cons (.var 3) .nil)))) .nil))) .nil))) .skip)) (.seq (.ret (.tupOf (.var 4))) .skip))))
def tGround (fl ds dw fr : Nat) : T := (.seq (.set 1 (.call fl (.cons (.var 0) .nil))) (.seq (.set 2 (.tupOf (.comp [3] (.range1 (.call ds (.cons (.var 1) .nil))) .nil (.call dw (.cons (.var 0) (.cons (.num 2) .nil)))))) (.seq (.set 4 (.call fr (.cons (.var 1) (.cons (.tup (.cons (.var 2) .nil)) .nil)))) (.seq (.ife (.cmp .eq (.bi .len (.cons (.var 4) .nil)) (.num 0)) (.seq (.set 1 (.bin .add (.tup (.cons (.bin .add (.cs ".") (.slice (.ix (.var 1) (.num 0)) (.cons (.num 1) .nil) .nil)) .nil)) (.slice (.var 1) (.cons (.num 1) .nil) .nil))) (.seq (.set 2 (.slice (.var 2) .nil (.cons (.call ds (.cons (.var 1) .nil)) .nil))) (.seq (.set 4 (.call fr (.cons (.var 1) (.cons (.tup (.cons (.var 2) .nil)) .nil)))) .skip))) .skip) (.seq (.ret (.tup (.cons (.var 1) (.cons (.var 2) (.cons (.var 4) .nil))))) .skip)))))
def tTrail (dw : Nat) : T := (.seq (.ret (.tupOf (.comp [1] (.range1 (.ix (.lst (.cons (.num 1) (.cons (.num 2) (.cons (.num 3) (.cons (.num 3) (.cons (.num 0) (.cons (.num 1) (.cons (.num 2) (.cons (.num 3) .nil))))))))) (.call dw (.cons (.var 0) (.cons (.num 8) .nil))))) .nil (.call dw (.cons (.var 0) (.cons (.num 4) .nil)))))) .skip)
theorem pickS_sp {f : Nat} (h : P[f]? = some ⟨2, 2, tPick dw⟩) (hd : P[dw]? = some ⟨2, 5, tDraw⟩) {z : Str} (ha : 0 ≤ a) (hb : 0 ≤ b) (h1 : 0 < z.length) (h2 : z.length < 1000) : W (callN P g (n + 2) f [.ref 1, .str z] (DS cells a b s ++ L)) (DQ cells L fun v => ∃ c, v = .str ⟨#[c]⟩) := by
  refine W_call h rfl ?_
  simp only [tPick, ds_len]
  walk_at "ev"
  rw [len_str]
  walk_at "ev"
  refine W_drw (n := n) (g := g) hd ha hb (by omega) (by omega) fun r a1 b1 s1 hr0 hr1 ha1 hb1 => ?_
  have hk : r.toNat < z.cps.toList.length := by
    have : z.cps.toList.length = z.length := by simp [Str.length]
    omega
  rw [v_ixS (k := r.toNat) (by omega) (List.getElem?_eq_getElem hk)]
  walk_at "ev"
  exact fin_ds0 rfl ha1 hb1 ⟨_, rfl⟩
theorem strsOf_map : ∀ l : List Str, strsOf (l.map .str) = some l
  | [] => rfl
  | x :: l => by rw [List.map_cons, strsOf, strsOf_map l]; rfl
def oneS (c : Nat) : Str := ⟨#[c]⟩
theorem v_join {S : Sto} {c : Nat} {cs : List Nat} (h : S[c]? = some (.lst ((cs.map oneS).map .str))) (hl : cs.length ≤ 1000) : biD .join [.str "", .ref c] S = .ok (.str ⟨cs.toArray⟩) S := by
  show (lft ((lstItems (.ref c) S).bind strsOf) S).bind _ = _
  have e : lstItems (.ref c) S = some ((cs.map oneS).map .str) := by simp only [lstItems, h]
  rw [e, Option.bind_some, strsOf_map, lft_some, R.bind_ok]
  have e2 : ((cs.map oneS).map Str.length).sum = cs.length := by
    rw [List.map_map]
    have : (Str.length ∘ oneS) = fun _ => 1 := by funext c; rfl
    rw [this, List.map_const', List.sum_replicate_nat, Nat.mul_one]
  rw [if_pos ⟨by decide, by rw [e2]; unfold sizeMax; omega⟩]
  congr 2
  unfold catS
  have : ∀ cs : List Nat, ((cs.map oneS).flatMap fun y => y.cps.toList) = cs := fun cs => by
    induction cs with
    | nil => rfl
    | cons c cs ih => rw [List.map_cons, List.flatMap_cons, ih]; rfl
  rw [this]
theorem floorB_sp {pi : Nat} {l : Nat} {o3 o4 o5 o6 : Option D} (hp : P[pi]? = some ⟨2, 2, tPick dw⟩) (hd : P[dw]? = some ⟨2, 5, tDraw⟩) (hl0 : 0 < l) (hl8 : l ≤ 8) (hw0 : 0 < w) (hw8 : w ≤ 8) (ha : 0 ≤ a) (hb : 0 ≤ b) :
    W (exec ⟨callN P g (n + 2), 2 + L.length, g⟩ (tFloorB dw pi) [some (.ref 1), some (.int (l : Int)), some (.int (w : Int)), o3, o4, o5, o6] (DS cells a b s ++ L)) (Fin (2 + L.length) (DQ cells L fun v => ∃ p w, v = plD p ∧ OkP w p)) := by
  simp only [tFloorB]
  walk_at "ev"
  rw [asc, ds_len]
  refine W_dq (pick_sp (P := P) (g := g) (n := n) (f := pi) hp hd (cells := cells) (j := L.length) ha hb (getN _ _ []) (by simp) (by simp) rfl) fun v a1 b1 s1 hv ha1 hb1 => ?_
  obtain ⟨z, hz0, hz1, rfl⟩ : ∃ z : Str, 0 < z.length ∧ z.length < 1000 ∧ v = .str z := by
    simp only [List.mem_cons, List.not_mem_nil, or_false] at hv
    rcases hv with rfl | rfl | rfl | rfl <;> exact ⟨_, by decide +kernel, by decide +kernel, rfl⟩
  rw [Nx_nx]
  walk_at "ev"
  rw [Nx_nx]
  walk_at "ev"
  rw [v_rangeB (by omega)]
  walk_at "ev"
  generalize hL1 : L ++ [O.lst [D.str "......,,+ab1A#*!", D.str "....,+abcdefgh123456ABCDEF#*!", D.str "..,,1122AABB##**!!", D.str "...........,,,,6F#"]] = L1
  obtain ⟨T0, hT0⟩ : ∃ T0, L1 = L ++ T0 := ⟨_, hL1.symm⟩
  rw [ds_len, asc]
  refine W_forM (fun dn ρ S' => ∃ q a b s T o5 o6, 0 ≤ a ∧ 0 ≤ b ∧ S' = DS cells a b s ++ (L1 ++ O.lst (q.map .str) :: T) ∧ q.length = dn.length ∧ (∀ x ∈ q, x.cps.toList.length = w) ∧ ρ = [some (.ref 1), some (.int (l : Int)), some (.int (w : Int)), some (.str z), some (.ref (2 + L1.length)), o5, o6]) ⟨[], a1, b1, s1, [], _, _, ha1, hb1, rfl, rfl, fun _ h => (by cases h), rfl⟩ (fun _ _ _ _ => good_nil _)
    (fun dn x rest ρ S' e ⟨q, a, b, s, T, o5, o6, ha, hb, h1, h2, h3, h4⟩ => ?_) fun ρ S' ⟨q, a, b, s, T, o5, o6, ha, hb, h1, h2, h3, h4⟩ => ?_
  · subst h1 h4
    have hdl := (rI_posn e).2
    have hq := getN L1 (O.lst (q.map D.str)) T
    rw [W_turn1]
    walk_at "ev"
    rw [mtOk_l (ds_L hq)]
    walk_at "ev"
    rw [v_rangeB (by omega)]
    walk_at "ev"
    refine W_compG (fun d2 acc S' => ∃ cs a b s, acc = (cs.map oneS).map .str ∧ cs.length = d2.length ∧ 0 ≤ a ∧ 0 ≤ b ∧ S' = DS cells a b s ++ (L1 ++ O.lst (q.map .str) :: T)) ⟨[], a, b, s, rfl, rfl, ha, hb, rfl⟩ (fun _ _ _ _ => good_nil _)
      (fun d2 y rest2 acc S' e2 ⟨cs, a, b, s, h5, h6, ha, hb, h7⟩ => ?_) fun acc S' ⟨cs, a, b, s, h5, h6, ha, hb, h7⟩ => ?_
    · subst h5 h7
      walk_at "ev"
      refine W_dq (pickS_sp (n := n) (g := g) (cells := cells) hp hd ha hb hz0 hz1) fun v a2 b2 s2 ⟨c, hc⟩ ha2 hb2 => ?_
      subst hc
      exact ⟨cs ++ [c], a2, b2, s2, by simp [oneS], by simp [h6], ha2, hb2, rfl⟩
    · subst h5 h7
      rw [rI_len] at h6
      walk_at "ev"
      rw [v_join (getN _ _ []) (by omega)]
      walk_at "ev"
      rw [asc, List.append_assoc, List.cons_append]
      rw [v_app (ds_L (getN L1 _ _)) (by rw [List.length_map]; unfold sizeMax; omega) rfl, ds_set, setN]
      walk_at "ev"
      rw [Nx_nx]
      walk_at "ev"
      refine ⟨q ++ [⟨cs.toArray⟩], a, b, s, T ++ [O.lst ((cs.map oneS).map .str)], _, _, ha, hb, ?_, by rw [List.length_append, h2, List.length_append]; rfl, fun y hy => ?_, rfl⟩
      · rw [List.map_append]; rfl
      · rcases List.mem_append.mp hy with hy | hy
        · exact h3 y hy
        · rw [List.mem_singleton.mp hy]
          simpa using h6
  · subst h1 h4
    rw [rI_len] at h2
    rw [Nx_nx]
    walk_at "ev"
    rw [sr_ref (ds_L (getN L1 _ T))]
    walk_at "ev"
    rw [hT0, List.append_assoc]
    exact fin_ds (pur_pl q) ha hb ⟨q, w, rfl, by omega, by omega, hw0, hw8, h3⟩
theorem floor_sp {f ra pi : Nat} (h : P[f]? = some ⟨1, 7, tFloor dw ra pi⟩) (hr : P[ra]? = some ⟨2, 2, tRare dw⟩) (hp : P[pi]? = some ⟨2, 2, tPick dw⟩) (hd : P[dw]? = some ⟨2, 5, tDraw⟩) (ha : 0 ≤ a) (hb : 0 ≤ b) :
    W (callN P g (n + 3) f [.ref 1] (DS cells a b s ++ L)) (DQ cells L fun v => ∃ p w, v = plD p ∧ OkP w p) := by
  refine W_call h rfl ?_
  simp only [tFloor, ds_len]
  walk_at "ev"
  refine W_drw (n := n + 1) (g := g) hd ha hb (by decide) (by decide) fun y a1 b1 s1 hy0 hy1 ha1 hb1 => ?_
  walk_at "ev"
  rw [Nx_nx]
  walk_at "ev"
  refine W_drw (n := n + 1) (g := g) hd ha1 hb1 (by decide) (by decide) fun z a2 b2 s2 hz0 hz1 ha2 hb2 => ?_
  walk_at "ev"
  rw [Nx_nx]
  walk_at "ev"
  refine W_dq (rare_sp (P := P) (g := g) (n := n) (f := ra) hr hd (cells := cells) ha2 hb2 (by decide) (by decide)) fun v a3 b3 s3 ⟨t, hv⟩ ha3 hb3 => ?_
  subst hv
  walk_at "ev"
  refine Br_if (fun hc => ?_) fun hc => ?_
  · walk_at "ev"
    refine W_drw (n := n + 1) (g := g) hd ha3 hb3 (by decide) (by decide) fun y a1 b1 s1 hy0 hy1 ha1 hb1 => ?_
    walk_at "ev"
    rw [Nx_nx]
    walk_at "ev"
    refine W_drw (n := n + 1) (g := g) hd ha1 hb1 (by decide) (by decide) fun z a2 b2 s2 hz0 hz1 ha2 hb2 => ?_
    walk_at "ev"
    rw [Nx_nx]
    walk_at "ev"
    rw [Nx_nx]
    obtain ⟨l, hl⟩ : ∃ i : Nat, 1 + y = i := ⟨(1 + y).toNat, by omega⟩
    obtain ⟨w, hw⟩ : ∃ i : Nat, 1 + z = i := ⟨(1 + z).toNat, by omega⟩
    rw [hl, hw]
    exact floorB_sp (n := n) hp hd (by omega) (by omega) (by omega) (by omega) ha2 hb2
  · walk_at "ev"
    rw [Nx_nx]
    obtain ⟨l, hl⟩ : ∃ i : Nat, 1 + y = i := ⟨(1 + y).toNat, by omega⟩
    obtain ⟨w, hw⟩ : ∃ i : Nat, 1 + z = i := ⟨(1 + z).toNat, by omega⟩
    rw [hl, hw]
    exact floorB_sp (n := n) hp hd (by omega) (by omega) (by omega) (by omega) ha3 hb3
def TrlP : D → Prop := fun v => ∃ t : List Int, v = tI t ∧ t.length ≤ 3 ∧ ∀ x ∈ t, 0 ≤ x ∧ x < 4
theorem trail_sp {f : Nat} (h : P[f]? = some ⟨1, 2, tTrail dw⟩) (hd : P[dw]? = some ⟨2, 5, tDraw⟩) (ha : 0 ≤ a) (hb : 0 ≤ b) : W (callN P g (n + 2) f [.ref 1] (DS cells a b s ++ L)) (DQ cells L TrlP) := by
  refine W_call h rfl ?_
  simp only [tTrail, ds_len]
  walk_at "ev"
  rw [asc, ds_len]
  refine W_drw (n := n) (g := g) hd ha hb (by decide) (by decide) fun y a1 b1 s1 hy0 hy1 ha1 hb1 => ?_
  obtain ⟨k, hk, hix⟩ : ∃ k : Nat, k ≤ 3 ∧ ixD (.ref (2 + L.length)) (.int y) (DS cells a1 b1 s1 ++ (L ++ [O.lst [.int 1, .int 2, .int 3, .int 3, .int 0, .int 1, .int 2, .int 3]])) = some (.int (k : Int)) := by
    have hix : ∀ {j : Nat} {d : D}, y = (j : Int) → ([.int 1, .int 2, .int 3, .int 3, .int 0, .int 1, .int 2, .int 3] : List D)[j]? = some d → ixD (.ref (2 + L.length)) (.int y) (DS cells a1 b1 s1 ++ (L ++ [O.lst [.int 1, .int 2, .int 3, .int 3, .int 0, .int 1, .int 2, .int 3]])) = some d := fun h1 h2 => v_ixL (ds_L (getN L _ [])) h1 h2
    have hy : y = 0 ∨ y = 1 ∨ y = 2 ∨ y = 3 ∨ y = 4 ∨ y = 5 ∨ y = 6 ∨ y = 7 := by omega
    rcases hy with h | h | h | h | h | h | h | h
    · exact ⟨1, by omega, hix (j := 0) h rfl⟩
    · exact ⟨2, by omega, hix (j := 1) h rfl⟩
    · exact ⟨3, by omega, hix (j := 2) h rfl⟩
    · exact ⟨3, by omega, hix (j := 3) h rfl⟩
    · exact ⟨0, by omega, hix (j := 4) h rfl⟩
    · exact ⟨1, by omega, hix (j := 5) h rfl⟩
    · exact ⟨2, by omega, hix (j := 6) h rfl⟩
    · exact ⟨3, by omega, hix (j := 7) h rfl⟩
  rw [hix]
  walk_at "ev"
  rw [v_rangeB (by omega)]
  walk_at "ev"
  generalize hL1 : L ++ [O.lst [.int 1, .int 2, .int 3, .int 3, .int 0, .int 1, .int 2, .int 3]] = L1
  refine W_compG (fun d2 acc S' => ∃ (t : List Int) (a b s : Int), acc = t.map .int ∧ t.length = d2.length ∧ (∀ x ∈ t, 0 ≤ x ∧ x < 4) ∧ 0 ≤ a ∧ 0 ≤ b ∧ S' = DS cells a b s ++ L1) ⟨[], a1, b1, s1, rfl, rfl, fun _ h => (by cases h), ha1, hb1, rfl⟩ (fun _ _ _ _ => good_nil _)
    (fun d2 y rest2 acc S' e2 ⟨t, a, b, s, h5, h6, h8, ha, hb, h7⟩ => ?_) fun acc S' ⟨t, a, b, s, h5, h6, h8, ha, hb, h7⟩ => ?_
  · subst h5 h7
    walk_at "ev"
    refine W_drw (n := n) (g := g) hd ha hb (by decide) (by decide) fun z a2 b2 s2 hz0 hz1 ha2 hb2 => ?_
    refine ⟨t ++ [z], a2, b2, s2, by simp, by simp [h6], fun x hx => ?_, ha2, hb2, rfl⟩
    rcases List.mem_append.mp hx with hx | hx
    · exact h8 x hx
    · rw [List.mem_singleton.mp hx]; exact ⟨hz0, hz1⟩
  · subst h5 h7
    rw [rI_len] at h6
    walk_at "ev"
    rw [asc, ds_len, sr_ref (ds_L (getN _ _ []))]
    walk_at "ev"
    rw [← hL1, List.append_assoc]
    exact fin_ds (pur_tI t) ha hb ⟨t, rfl, by omega, h8⟩
theorem v_lenN {S : Sto} {l : List Nat} : biD .len [tN l] S = .ok (.int l.length) S := by
  unfold tN
  rw [v_lenI]
  unfold nI
  rw [List.length_map]
theorem v_slTo1 {S : Sto} {xs : List Int} {j : Nat} (hj : j ≤ xs.length) : sliceD (tI xs) none (some (j : Int)) S = .ok (tI (xs.take j)) S := by
  show R.ok (D.tup (cutD (xs.map D.int) none (some (j : Int)))) S = _
  unfold cutD sIx
  dsimp only
  rw [if_neg (by omega), List.length_map, Int.toNat_natCast, Nat.min_eq_left hj, List.drop_zero, Nat.sub_zero, List.map_take.symm]
  rfl
theorem cutC1 {xs : List Nat} (h : 0 < xs.length) : cutC xs (some 1) none = xs.drop 1 := by
  unfold cutC sIx
  dsimp only
  rw [if_neg (by omega), show (1 : Int).toNat = 1 from rfl, Nat.min_eq_left h]
  exact List.take_of_length_le (by rw [List.length_drop]; exact Nat.le_refl _)
theorem cutD1 {xs : List D} (h : 0 < xs.length) : cutD xs (some 1) none = xs.drop 1 := by
  unfold cutD sIx
  dsimp only
  rw [if_neg (by omega), show (1 : Int).toNat = 1 from rfl, Nat.min_eq_left h]
  exact List.take_of_length_le (by rw [List.length_drop]; exact Nat.le_refl _)
def GrdP : D → Prop := fun v => ∃ (p : Pl) (w : Nat) (s : List Int), v = .tup [plD p, tI s, tN (frees p w [s])] ∧ OkP w p ∧ OkS p s ∧ s.length ≤ 6 ∧ frees p w [s] ≠ []
theorem pur_grd {q : Pl} {s : List Int} {l : List Nat} : (D.tup [plD q, tI s, tN l]).pur = true := by
  show ((plD q).pur && ((tI s).pur && ((tN l).pur && true))) = true
  rw [pur_pl, pur_tI, pur_tN]
  rfl
theorem ground_sp {f fl ds fr ra pi lk : Nat} (h : P[f]? = some ⟨1, 5, tGround fl ds dw fr⟩) (hfl : P[fl]? = some ⟨1, 7, tFloor dw ra pi⟩) (hds : P[ds]? = some ⟨1, 4, tDoors⟩) (hfr : P[fr]? = some ⟨2, 5, tFree lk⟩) (hlk : P[lk]? = some ⟨3, 5, tLKind⟩) (hr : P[ra]? = some ⟨2, 2, tRare dw⟩) (hp : P[pi]? = some ⟨2, 2, tPick dw⟩) (hd : P[dw]? = some ⟨2, 5, tDraw⟩) (ha : 0 ≤ a) (hb : 0 ≤ b) :
    W (callN P g (n + 4) f [.ref 1] (DS cells a b s ++ L)) (DQ cells L GrdP) := by
  refine W_call h rfl ?_
  simp only [tGround, ds_len]
  walk_at "ev"
  refine W_dq (floor_sp (n := n) (g := g) (cells := cells) hfl hr hp hd ha hb) fun v a1 b1 s1 ⟨p, w, hv, ok⟩ ha1 hb1 => ?_
  subst hv
  rw [Nx_nx]
  walk_at "ev"
  rw [doors_sp (n := n + 2) hds]
  walk_at "ev"
  have h6 := doors6 p
  rw [v_rangeB (by omega)]
  walk_at "ev"
  refine W_compG (fun d2 acc S' => ∃ (t : List Int) (a b s : Int), acc = t.map .int ∧ t.length = d2.length ∧ 0 ≤ a ∧ 0 ≤ b ∧ S' = DS cells a b s ++ L) ⟨[], a1, b1, s1, rfl, rfl, ha1, hb1, rfl⟩ (fun _ _ _ _ => good_nil _)
    (fun d2 y rest2 acc S' e2 ⟨t, a, b, s, h5, h6, ha, hb, h7⟩ => ?_) fun acc S' ⟨t, a, b, s, h5, htl, ha, hb, h7⟩ => ?_
  · subst h5 h7
    walk_at "ev"
    refine W_drw (n := n + 2) (g := g) hd ha hb (by decide) (by decide) fun z a2 b2 s2 hz0 hz1 ha2 hb2 => ?_
    exact ⟨t ++ [z], a2, b2, s2, by simp, by simp [h6], ha2, hb2, rfl⟩
  · subst h5 h7
    rw [rI_len] at htl
    walk_at "ev"
    rw [asc, ds_len, sr_ref (ds_L (getN _ _ []))]
    walk_at "ev"
    rw [Nx_nx]
    walk_at "ev"
    have hs : OkS p t := okS_doors (by omega)
    have f1 := free_sp (P := P) (g := g) (n := n + 1) (S := DS cells a b s ++ (L ++ [O.lst (t.map .int)])) hfr hlk ok (ss := [t]) (fun x hx => by rw [List.mem_singleton.mp hx]; exact hs)
    rw [show (D.tup (t.map D.int)) = tI t from rfl]
    rw [show callN P g (n + 3) fr [plD p, .tup [tI t]] (DS cells a b s ++ (L ++ [O.lst (t.map .int)])) = _ from f1]
    walk_at "ev"
    rw [Nx_nx]
    walk_at "ev"
    rw [v_lenN]
    walk_at "ev"
    refine Br_if (fun hc => ?_) fun hc => ?_
    · obtain ⟨l0, e0, e1⟩ := head_at ok
      have hl0 : l0 ∈ p := List.mem_of_getElem? e0
      have hw0 := ok.w0
      have hw8 := ok.w8
      have hlw := ok.wid l0 hl0
      walk_at "ev"
      rw [ix_pl (k := 0) (i := (0 : Int)) e0 rfl]
      walk_at "ev"
      rw [show sliceD (.str l0) (some 1) none (DS cells a b s ++ (L ++ [O.lst (t.map .int)])) = .ok (.str ⟨(cutC l0.cps.toList (some 1) none).toArray⟩) _ from rfl, cutC1 (by omega)]
      walk_at "ev"
      generalize hz : (⟨(l0.cps.toList.drop 1).toArray⟩ : Str) = z
      have hzl : z.cps.toList = l0.cps.toList.drop 1 := by rw [← hz]
      have hzn : z.length = w - 1 := by
        show z.cps.size = _
        rw [← Array.length_toList, hzl, List.length_drop, hlw]
      rw [show binD .add (.str ".") (.str z) (DS cells a b s ++ (L ++ [O.lst (t.map .int)])) = .ok (.str ("." ++ z)) _ from if_pos (by rw [hzn, show ("." : Str).length = 1 from rfl]; unfold sizeMax; omega)]
      walk_at "ev"
      have hyl : ("." ++ z : Str).cps.toList = 46 :: l0.cps.toList.drop 1 := by
        show (("." : Str).cps ++ z.cps).toList = _
        rw [Array.toList_append, hzl]
        rfl
      generalize ("." ++ z : Str) = y at hyl
      rw [show sliceD (plD p) (some 1) none (DS cells a b s ++ (L ++ [O.lst (t.map .int)])) = .ok (.tup (cutD (p.map .str) (some 1) none)) _ from rfl, cutD1 (by rw [List.length_map]; exact ok.h0)]
      walk_at "ev"
      have hp8 := ok.h8
      rw [v_tcat (by rw [List.length_drop, List.length_map]; simp; unfold sizeMax; omega)]
      walk_at "ev"
      have ep : (D.tup (.str y :: (p.map D.str).drop 1)) = plD (y :: p.drop 1) := by unfold plD; rw [List.map_cons, List.map_drop]
      rw [ep, Nx_nx]
      walk_at "ev"
      have ok2 : OkP w (y :: p.drop 1) := by
        have h0 := ok.h0
        refine ⟨by simp, by rw [List.length_cons, List.length_drop]; omega, hw0, hw8, fun l hl => ?_⟩
        rcases List.mem_cons.mp hl with rfl | hl
        · rw [hyl, List.length_cons, List.length_drop, hlw]; omega
        · exact ok.wid l (List.mem_of_mem_drop hl)
      have hd2 : doorsP (y :: p.drop 1) ≤ t.length := doors_le fun l hl c hc => by
        rcases List.mem_cons.mp hl with rfl | hl
        · rw [hyl] at hc
          rcases List.mem_cons.mp hc with rfl | hc
          · exact Nat.zero_le _
          · exact hs l0 hl0 c (List.mem_of_mem_drop hc)
        · exact hs l (List.mem_of_mem_drop hl) c hc
      rw [doors_sp (n := n + 2) hds]
      walk_at "ev"
      rw [v_slTo1 hd2]
      walk_at "ev"
      rw [Nx_nx]
      walk_at "ev"
      have hlen2 : (t.take (doorsP (y :: p.drop 1))).length = doorsP (y :: p.drop 1) := by rw [List.length_take]; omega
      have h6' := doors6 (y :: p.drop 1)
      generalize t.take (doorsP (y :: p.drop 1)) = t2 at hlen2 ⊢
      have hs2 : OkS (y :: p.drop 1) t2 := okS_doors (by omega)
      have f2 := free_sp (P := P) (g := g) (n := n + 1) (S := DS cells a b s ++ (L ++ [O.lst (t.map .int)])) hfr hlk ok2 (ss := [t2]) (fun x hx => by rw [List.mem_singleton.mp hx]; exact hs2)
      rw [show callN P g (n + 3) fr [plD (y :: p.drop 1), .tup [tI t2]] (DS cells a b s ++ (L ++ [O.lst (t.map .int)])) = _ from f2]
      walk_at "ev"
      rw [Nx_nx]
      walk_at "ev"
      rw [Nx_nx]
      walk_at "ev"
      refine fin_ds pur_grd ha hb ⟨_, w, t2, rfl, ok2, hs2, by omega, fun he => ?_⟩
      have h0m : 0 ∈ frees (y :: p.drop 1) w [t2] := by
        unfold frees
        rw [List.mem_filter, List.mem_range]
        refine ⟨Nat.mul_pos hw0 (by simp), ?_⟩
        have : chr (y :: p.drop 1) w 0 = 46 := by
          unfold chr
          rw [Nat.zero_div, Nat.zero_mod]
          show y.cps.toList.getD 0 0 = 46
          rw [hyl]
          rfl
        rw [this]
        rfl
      rw [he] at h0m
      cases h0m
    · walk_at "ev"
      rw [Nx_nx]
      walk_at "ev"
      refine fin_ds pur_grd ha hb ⟨p, w, t, rfl, ok, hs, by omega, fun he => ?_⟩
      rw [he] at hc
      cases hc
end
end PV

namespace PV
open PySem
local macro_rules
  | `(tactic| walk_at "ev") => `(tactic| try simp -implicitDefEqProofs only [X_seq, X_skip, X_set, X_setT, X_setIx, X_augIx, X_ife, X_ret, X_expr, X_for, X_brk, X_cont, sem, Mean.of, Mean.ofTe, Mean.ofIt, W_bind, W_ok, R.bind_ok, lft_some, List.map_cons, List.map_nil, List.replicate, List.cons_append, List.nil_append, Nat.reduceSub, List.getElem?_cons_zero, List.getElem?_cons_succ, List.set_cons_zero, List.set_cons_succ, List.length_cons, List.length_nil, v_lt, v_gt, v_le, v_ge, v_eq, v_ne, v_tb, v_add, v_sub, v_int, v_intb, v_abs, v_aadd, v_asub, okPut_int, Nx_rt, Nx_bk, Nx_ct, sr_tup', wipe1, asg1, W_alloc, Br_t, Br_f, Bool.not_true, Bool.not_false, if_true, if_false, reduceIte, sr_tI, v_lenI, Bool.false_eq_true, v_part0, v_part1, ss_ref, ss_tup, ss_fls, ss_tI, wipe2, chain_if, te_and, te_or, ss_str, v_addB, v_subB, Option.isSome_some, Option.isSome_none, Option.map_some])
/-! ### what the laws on sensors share -/
section
variable {P : List Fn} {g : Nat → Option D} {n : Nat} {S : Sto} {w : Nat} {p : Pl}
/-! marks -/
theorem marks8 : ("abcdefgh" : Str).cps.toList = [97, 98, 99, 100, 101, 102, 103, 104] := by decide +kernel
theorem findM (c : Nat) : findC "abcdefgh" c = if 97 ≤ c ∧ c ≤ 104 then (c : Int) - 97 else -1 := by
  unfold findC
  rw [marks8]
  have e : ((([97, 98, 99, 100, 101, 102, 103, 104] : List Nat).findIdx? fun d => d == c)) = if 97 ≤ c ∧ c ≤ 104 then some (c - 97) else none := by
    by_cases h : 97 ≤ c ∧ c ≤ 104
    · rw [if_pos h]
      obtain ⟨k, rfl⟩ : ∃ k, c = 97 + k := ⟨c - 97, by omega⟩
      have hk : k < 8 := by omega
      rw [Nat.add_sub_cancel_left]
      match k, hk with
      | 0, _ => rfl
      | 1, _ => rfl
      | 2, _ => rfl
      | 3, _ => rfl
      | 4, _ => rfl
      | 5, _ => rfl
      | 6, _ => rfl
      | 7, _ => rfl
    · rw [if_neg h, List.findIdx?_eq_none_iff]
      intro d hd
      rw [beq_eq_false_iff_ne]
      simp only [List.mem_cons, List.not_mem_nil, or_false] at hd
      omega
  rw [e]
  by_cases h : 97 ≤ c ∧ c ≤ 104
  · rw [if_pos h, if_pos h]
    show ((c - 97 : Nat) : Int) = _
    omega
  · rw [if_neg h, if_neg h]
theorem inM (c : Nat) : cmpD .isin (.str ⟨#[c]⟩) (.str "abcdefgh") S = some (decide (97 ≤ c ∧ c ≤ 104)) := by
  show (some (decide (c ∈ ("abcdefgh" : Str).cps.toList)) : Option Bool) = _
  rw [marks8]
  congr 1
  rw [decide_eq_decide]
  simp only [List.mem_cons, List.not_mem_nil, or_false]
  omega
def mkP (p : Pl) (w c : Nat) : Int := if 97 ≤ chr p w c ∧ chr p w c ≤ 104 then (chr p w c : Int) - 96 else 0
theorem mkP_rng (c : Nat) : 0 ≤ mkP p w c ∧ mkP p w c ≤ 8 := by
  unfold mkP
  split <;> omega
def tMark (gk ch : Nat) : T := (.seq (.ret (.bin .add (.bi .find (.cons (.glob gk) (.cons (.call ch (.cons (.var 0) (.cons (.var 1) .nil))) .nil))) (.num 1))) .skip)
def tLMark : T := (.seq (.set 2 (.bi .len (.cons (.ix (.var 0) (.num 0)) .nil))) (.seq (.set 3 (.ix (.ix (.var 0) (.bin .fdiv (.var 1) (.var 2))) (.bin .mod (.bi .int (.cons (.var 1) .nil)) (.var 2)))) (.seq (.ife (.cmp .isin (.var 3) (.cs "abcdefgh")) (.seq (.ret (.bin .sub (.bi .ord (.cons (.var 3) .nil)) (.num 96))) .skip) .skip) (.seq (.ret (.num 0)) .skip))))
def tTop : T := (.seq (.ife (.cmp .eq (.ix (.var 0) (.num 0)) (.cs "range")) (.seq (.ret (.ix (.var 0) (.num 2))) .skip) .skip) (.seq (.ife (.cmp .eq (.ix (.var 0) (.num 0)) (.cs "mark")) (.seq (.ret (.num 8)) .skip) .skip) (.seq (.ret (.num 1)) .skip)))
def tAhead (nx kd : Nat) : T := (.seq (.set 4 (.num 0)) (.seq (.set 5 (.call nx (.cons (.var 0) (.cons (.var 2) (.cons (.var 3) .nil))))) (.seq (.while_ (.and (.notN (.var 5)) (.cmp .isin (.call kd (.cons (.var 0) (.cons (.var 1) (.cons (.var 5) .nil)))) (.tup (.cons (.cs "free") (.cons (.cs "hole") .nil))))) (.seq (.aug 4 .add (.num 1)) (.seq (.set 5 (.call nx (.cons (.var 0) (.cons (.var 5) (.cons (.var 3) .nil))))) .skip))) (.seq (.ret (.var 4)) .skip))))
def tSens (tp rg mv nv wd : Nat) : T := (.seq (.ife (.cmp .eq (.var 3) (.cs "dead")) (.seq (.ret (.tup (.cons (.num 0) .nil))) .skip) .skip) (.seq (.ife (.cmp .eq (.var 3) (.cs "wild")) (.seq (.ret (.tupOf (.range1 (.bin .add (.call tp (.cons (.var 2) .nil)) (.num 1))))) .skip) .skip) (.seq (.ife (.cmp .eq (.ix (.var 2) (.num 0)) (.cs "range")) (.seq (.ret (.call rg (.cons (.var 0) (.cons (.var 1) (.cons (.var 2) (.cons (.var 4) .nil)))))) .skip) .skip) (.seq (.ife (.cmp .eq (.ix (.var 2) (.num 0)) (.cs "mark")) (.seq (.ret (.call mv (.cons (.var 0) (.cons (.var 2) (.cons (.var 4) .nil))))) .skip) .skip) (.seq (.ife (.cmp .eq (.ix (.var 2) (.num 0)) (.cs "bump")) (.seq (.ret (.tup (.cons (.var 6) .nil))) .skip) .skip) (.seq (.ret (.call nv (.cons (.call wd (.cons (.var 0) .nil)) (.cons (.var 2) (.cons (.var 4) (.cons (.var 5) .nil)))))) .skip))))))
def tRange (ah : Nat) : T := (.seq (.set 4 (.ix (.var 2) (.num 2))) (.seq (.set 5 (.ix (.var 2) (.num 3))) (.seq (.set 6 (.bi .min (.cons (.var 4) (.cons (.call ah (.cons (.var 0) (.cons (.var 1) (.cons (.var 3) (.cons (.ix (.var 2) (.num 1)) .nil))))) .nil)))) (.seq (.ret (.tupOf (.comp [7] (.range1 (.bin .add (.var 4) (.num 1))) (.chain .le .le (.bin .sub (.var 6) (.var 5)) (.var 7) (.bin .add (.var 6) (.var 5))) (.var 7)))) .skip))))
def tMarkV (mk : Nat) : T := (.seq (.set 3 (.call mk (.cons (.var 0) (.cons (.var 2) .nil)))) (.seq (.set 4 (.lst (.cons (.var 3) .nil))) (.seq (.for_ [5, 6] (.ix (.var 1) (.num 1)) (.seq (.ife (.cmp .eq (.var 5) (.var 3)) (.seq (.expr (.meth .append (.var 4) (.cons (.var 6) .nil))) .skip) .skip) .skip)) (.seq (.ret (.tupOf (.bi .sorted (.cons (.var 4) .nil)))) .skip))))
def tNearV (ca : Nat) : T := (.seq (.ife (.cmp .eq (.bi .len (.cons (.var 3) .nil)) (.num 0)) (.seq (.ret (.tup (.cons (.num 0) .nil))) .skip) .skip) (.seq (.set 4 (.bi .min (.cons (.comp [5] (.var 3) .nil (.call ca (.cons (.var 0) (.cons (.var 2) (.cons (.var 5) .nil))))) .nil))) (.seq (.ife (.cmp .le (.var 4) (.ix (.var 1) (.num 1))) (.seq (.ret (.tup (.cons (.num 1) .nil))) .skip) .skip) (.seq (.ife (.cmp .gt (.var 4) (.ix (.var 1) (.num 2))) (.seq (.ret (.tup (.cons (.num 0) .nil))) .skip) .skip) (.seq (.ret (.tup (.cons (.num 0) (.cons (.num 1) .nil)))) .skip)))))
def tApart : T := (.seq (.set 3 (.bi .abs (.cons (.bin .sub (.bin .fdiv (.var 1) (.var 0)) (.bin .fdiv (.var 2) (.var 0))) .nil))) (.seq (.set 4 (.bi .abs (.cons (.bin .sub (.bin .mod (.var 1) (.var 0)) (.bin .mod (.var 2) (.var 0))) .nil))) (.seq (.ret (.bin .add (.var 3) (.var 4))) .skip)))
def tLApart : T := (.seq (.set 3 (.bi .len (.cons (.ix (.var 0) (.num 0)) .nil))) (.seq (.ret (.bin .add (.bi .abs (.cons (.bin .sub (.bin .fdiv (.var 1) (.var 3)) (.bin .fdiv (.var 2) (.var 3))) .nil)) (.bi .abs (.cons (.bin .sub (.bin .mod (.bi .int (.cons (.var 1) .nil)) (.var 3)) (.bin .mod (.bi .int (.cons (.var 2) .nil)) (.var 3))) .nil)))) .skip))
theorem mark_sp {f gk ch wd : Nat} (h : P[f]? = some ⟨2, 2, tMark gk ch⟩) (hch : P[ch]? = some ⟨2, 3, tChar wd⟩) (hwd : P[wd]? = some ⟨1, 1, tWid⟩) (hg : g gk = some (.str "abcdefgh")) (ok : OkP w p) {c : Nat} (hc : c < w * p.length) : callN P g (n + 3) f [plD p, .int c] S = .ok (.int (mkP p w c)) S := by
  refine call_eq h rfl ?_
  simp only [tMark]
  walk_at "ev"
  rw [hg]
  walk_at "ev"
  rw [char_sp (n := n) hch hwd ok hc]
  walk_at "ev"
  rw [v_find, findM]
  walk_at "ev"
  refine fin_pur rfl ⟨?_, take_same S⟩
  congr 1
  unfold mkP
  split <;> omega
theorem lmark_sp {f : Nat} (h : P[f]? = some ⟨2, 4, tLMark⟩) (ok : OkP w p) {c : Nat} (hc : c < w * p.length) : callN P g (n + 1) f [plD p, .int c] S = .ok (.int (mkP p w c)) S := by
  obtain ⟨l0, e0, e1⟩ := head_at ok
  obtain ⟨l, _, h1, h2, _⟩ := chr_at ok hc
  have hw := ok.w0
  have hw8 := ok.w8
  refine call_eq h rfl ?_
  simp only [tLMark]
  walk_at "ev"
  rw [ix_pl (k := 0) (i := (0 : Int)) e0 rfl]
  walk_at "ev"
  rw [len_str, e1]
  walk_at "ev"
  rw [Nx_nx]
  walk_at "ev"
  rw [v_fdiv (by omega) (by omega)]
  walk_at "ev"
  rw [ix_pl h1 (by rfl)]
  walk_at "ev"
  rw [v_mod (by omega)]
  walk_at "ev"
  rw [v_ixS (k := c % w) (by rfl) h2]
  walk_at "ev"
  unfold mkP
  generalize chr p w c = x
  rw [Nx_nx]
  walk_at "ev"
  rw [inM]
  walk_at "ev"
  by_cases hx : 97 ≤ x ∧ x ≤ 104
  · rw [decide_eq_true hx, if_pos hx]
    walk_at "ev"
    rw [v_ordS]
    walk_at "ev"
    exact fin_pur rfl ⟨rfl, take_same S⟩
  · rw [decide_eq_false hx, if_neg hx]
    walk_at "ev"
    rw [Nx_nx]
    walk_at "ev"
    exact fin_pur rfl ⟨rfl, take_same S⟩
/-! how far it is free -/
def opn (p : Pl) (w : Nat) (s : List Int) (c : Nat) : Bool := kdS (chr p w c) s == "free" || kdS (chr p w c) s == "hole"
def goN (p : Pl) (w : Nat) (s : List Int) (d : Int) : Nat → Option Nat → Nat
  | 0, _ => 0
  | _ + 1, none => 0
  | k + 1, some c => if opn p w s c = true then 1 + goN p w s d k (nxP w p.length c d) else 0
def ahd (p : Pl) (w : Nat) (s : List Int) (c : Nat) (d : Int) : Nat := goN p w s d 9 (nxP w p.length c d)
def farN (w h : Nat) (d : Int) (c : Nat) : Nat := if d = 0 then c / w else if d = 1 then w - 1 - c % w else if d = 2 then h - 1 - c / w else c % w
theorem divmod_of {w l k : Nat} (hk : k < w) : (l * w + k) / w = l ∧ (l * w + k) % w = k := by
  have hw : 0 < w := by omega
  refine ⟨?_, ?_⟩
  · rw [Nat.mul_comm, Nat.mul_add_div hw, Nat.div_eq_of_lt hk, Nat.add_zero]
  · rw [Nat.mul_comm, Nat.mul_add_mod, Nat.mod_eq_of_lt hk]
theorem far_step {h c c' : Nat} {d : Int} (h0 : 0 ≤ d) (h4 : d < 4) (hw : 0 < w) (hc : c < w * h) (e : nxP w h c d = some c') : farN w h d c' + 1 = farN w h d c := by
  obtain ⟨hq1, hq2⟩ := cell_lt hw hc
  unfold nxP at e
  dsimp only at e
  split at e
  · rename_i hh
    obtain ⟨⟨h1, h2⟩, h3, h5⟩ := hh
    cases e
    obtain ⟨l, hl⟩ : ∃ i : Nat, ((c / w : Nat) : Int) + dn d = i := ⟨(((c / w : Nat) : Int) + dn d).toNat, by omega⟩
    obtain ⟨k, hk⟩ : ∃ i : Nat, ((c % w : Nat) : Int) + rt d = i := ⟨(((c % w : Nat) : Int) + rt d).toNat, by omega⟩
    rw [hl, hk]
    rw [hl] at h1 h2
    rw [hk] at h3 h5
    rw [show ((l : Int) * w + k).toNat = l * w + k by
      have : ((l : Int) * w + k) = ((l * w + k : Nat) : Int) := by push_cast; rfl
      rw [this, Int.toNat_natCast]]
    obtain ⟨g1, g2⟩ := divmod_of (l := l) (show k < w by omega)
    unfold farN
    rw [g1, g2]
    rcases dir4 h0 h4 with rfl | rfl | rfl | rfl
    · have e1 : dn 0 = -1 := rfl
      rw [e1] at hl
      simp only [if_pos]
      omega
    · have e1 : rt 1 = 1 := rfl
      rw [e1] at hk
      simp only [if_neg (show ¬ ((1 : Int) = 0) by decide), if_pos]
      omega
    · have e1 : dn 2 = 1 := rfl
      rw [e1] at hl
      simp only [if_neg (show ¬ ((2 : Int) = 0) by decide), if_neg (show ¬ ((2 : Int) = 1) by decide), if_pos]
      omega
    · have e1 : rt 3 = -1 := rfl
      rw [e1] at hk
      simp only [if_neg (show ¬ ((3 : Int) = 0) by decide), if_neg (show ¬ ((3 : Int) = 1) by decide), if_neg (show ¬ ((3 : Int) = 2) by decide)]
      omega
  · cases e
theorem far_le {h c : Nat} {d : Int} (hw : 0 < w) (hw8 : w ≤ 8) (hh : h ≤ 8) (hc : c < w * h) : farN w h d c ≤ 7 := by
  obtain ⟨hq1, hq2⟩ := cell_lt hw hc
  unfold farN
  generalize c / w = a at hq1 ⊢
  generalize c % w = b at hq2 ⊢
  split
  · omega
  · split
    · omega
    · split <;> omega
theorem v_in2 {z x y : Str} : cmpD .isin (.str z) (.tup [.str x, .str y]) S = some (z == x || z == y) := by
  show inD (.str z) (.tup [.str x, .str y]) S = _
  rw [inD_items (show items (.tup [.str x, .str y]) S = some [.str x, .str y] from rfl)]
  have h : ((D.str z).pur && D.purs [.str x, .str y] && decide ((D.str z).dep ≤ maxDep) && decide (D.deps [.str x, .str y] ≤ maxDep)) = true := rfl
  rw [if_pos h]
  congr 1
  show ((x == z) || ((y == z) || false)) = _
  rw [Bool.or_false, BEq.comm (a := x), BEq.comm (a := y)]
theorem ahead_sp {f nx kd : Nat} (h : P[f]? = some ⟨4, 6, tAhead nx kd⟩) (ok : OkP w p) {s : List Int}
    (hnx : ∀ {c : Nat} {d : Int} {S : Sto}, 0 ≤ d → d < 4 → callN P g n nx [plD p, .int c, .int d] S = .ok (oN (nxP w p.length c d)) S)
    (hkd : ∀ {c : Nat} {S : Sto}, c < w * p.length → callN P g n kd [plD p, tI s, .int c] S = .ok (.str (kdS (chr p w c) s)) S)
    {c : Nat} {d : Int} (h0 : 0 ≤ d) (h4 : d < 4) : callN P g (n + 1) f [plD p, tI s, .int c, .int d] S = .ok (.int (ahd p w s c d : Nat)) S := by
  refine call_eq h rfl ?_
  simp only [tAhead]
  walk_at "ev"
  rw [Nx_nx]
  walk_at "ev"
  rw [hnx h0 h4]
  walk_at "ev"
  rw [Nx_nx]
  walk_at "ev"
  rw [X_while]
  have hw := ok.w0
  have hw8 := ok.w8
  have hh8 := ok.h8
  refine W_while (fun k ρ S' => ∃ (m : Nat) (o : Option Nat), S' = S ∧ ρ = [some (plD p), some (tI s), some (.int c), some (.int d), some (.int (m : Int)), some (oN o)] ∧ m + goN p w s d k o = ahd p w s c d ∧ (∀ c', o = some c' → c' < w * p.length ∧ farN w p.length d c' < k)) (k := 9) ⟨0, nxP w p.length c d, rfl, rfl, by unfold ahd; omega, fun c' hc' => ⟨nxP_lt hc', Nat.lt_of_le_of_lt (far_le hw hw8 hh8 (nxP_lt hc')) (by decide)⟩⟩ fun k ρ S' ⟨m, o, h1, h2, h3, h5⟩ => ?_
  subst h1 h2
  cases o with
  | none =>
    have hg : goN p w s d k none = 0 := by cases k <;> rfl
    rw [hg] at h3
    simp only [oN]
    walk_at "ev"
    rw [Nx_nx]
    walk_at "ev"
    rw [← h3]
    exact fin_pur rfl ⟨rfl, take_same _⟩
  | some c' =>
    obtain ⟨hc', hf⟩ := h5 c' rfl
    obtain ⟨k, rfl⟩ : ∃ k', k = k' + 1 := ⟨k - 1, by omega⟩
    rw [goN] at h3
    simp only [oN]
    walk_at "ev"
    rw [hkd hc']
    walk_at "ev"
    rw [v_in2]
    walk_at "ev"
    rw [show (kdS (chr p w c') s == "free" || kdS (chr p w c') s == "hole") = opn p w s c' from rfl]
    cases ho : opn p w s c' with
    | true =>
      rw [ho, if_pos rfl] at h3
      rw [if_pos rfl]
      refine ⟨k, rfl, ?_⟩
      rw [X_aug (x := .int m) rfl]
      walk_at "ev"
      rw [Nx_nx]
      walk_at "ev"
      rw [hnx h0 h4]
      walk_at "ev"
      rw [Nx_nx]
      walk_at "ev"
      refine ⟨m + 1, _, trivial, by push_cast; rfl, by omega, fun c2 hc2 => ⟨nxP_lt hc2, ?_⟩⟩
      have := far_step h0 h4 hw hc' hc2
      omega
    | false =>
      rw [ho, if_neg (by decide)] at h3
      rw [if_neg (by decide), Nx_nx]
      walk_at "ev"
      rw [← h3]
      exact fin_pur rfl ⟨rfl, take_same _⟩
/-! the values -/
inductive Sn where
  | rng (d : Int) (far : Nat) (err : Int)
  | mrk (cf : List (Int × Int))
  | bmp
  | nr (i o : Int)
def prD (q : Int × Int) : D := .tup [.int q.1, .int q.2]
theorem pur_pr (q : Int × Int) : (prD q).pur = true := rfl
def snD : Sn → D
  | .rng d f e => .tup [.str "range", .int d, .int (f : Int), .int e]
  | .mrk cf => .tup [.str "mark", .tup (cf.map prD)]
  | .bmp => .tup [.str "bump"]
  | .nr i o => .tup [.str "near", .int i, .int o]
theorem pur_sn (q : Sn) : (snD q).pur = true := by
  cases q with
  | mrk cf =>
    show (true && (D.purs (cf.map prD) && true)) = true
    rw [purs_all pur_pr]; rfl
  | _ => rfl
def topS : Sn → Nat
  | .rng _ f _ => f
  | .mrk _ => 8
  | _ => 1
inductive Bk where
  | ok | dead | wild
def bkD : Bk → D
  | .ok => .non
  | .dead => .str "dead"
  | .wild => .str "wild"
def srtI (ns : List Int) : List Int := ns.mergeSort fun a b => (D.int a).le (D.int b)
theorem sorted_int (ns : List Int) : sorted (ns.map .int) = (srtI ns).map .int := by
  unfold sorted srtI
  exact (List.map_mergeSort (f := D.int) (r := fun a b => (D.int a).le (D.int b)) (s := D.le) (l := ns) fun a _ b _ => rfl).symm
theorem sortable_int (ns : List Int) : sortable (ns.map .int) = true := by
  unfold sortable
  simp only [Bool.and_eq_true, decide_eq_true_eq, List.all_eq_true]
  refine ⟨⟨⟨purs_int ns, ?_⟩, fun a ha b hb => ?_⟩, fun a ha => ?_⟩
  · rw [deps_int]; exact Nat.zero_le _
  · obtain ⟨x, _, rfl⟩ := List.mem_map.mp ha
    obtain ⟨y, _, rfl⟩ := List.mem_map.mp hb
    rfl
  · obtain ⟨x, _, rfl⟩ := List.mem_map.mp ha
    rfl
theorem v_sortI {d : D} {ns : List Int} (hd : items d S = some (ns.map .int)) : biD .sorted [d] S = .ok (.ref S.length) (S ++ [.lst ((srtI ns).map .int)]) := by
  simp only [biD, bi1, dicAt_none hd]
  rw [hd, lft_some, R.bind_ok, if_pos (sortable_int ns), sorted_int]
  rfl
theorem le_int (a b : Int) : (D.int a).le (D.int b) = decide (a ≤ b) := by
  show (!decide (b < a)) = _
  exact le_ndlt a b
theorem srtI_eq {ns ys : List Int} (hp : ns.Perm ys) (hy : ys.Pairwise (· < ·)) : srtI ns = ys := by
  unfold srtI
  have h1 : (ns.mergeSort fun a b => (D.int a).le (D.int b)).Pairwise fun a b => (D.int a).le (D.int b) = true := List.pairwise_mergeSort (fun a b c h1 h2 => by rw [le_int, decide_eq_true_eq] at *; omega) (fun a b => by rw [le_int, le_int, Bool.or_eq_true, decide_eq_true_eq, decide_eq_true_eq]; omega) ns
  have h2 := (List.mergeSort_perm ns fun a b => (D.int a).le (D.int b)).trans hp
  generalize (ns.mergeSort fun a b => (D.int a).le (D.int b)) = zs at h1 h2
  refine List.Perm.eq_of_pairwise (le := fun a b => a ≤ b) (fun a b _ _ h1 h2 => by omega) ?_ ?_ h2
  · exact h1.imp fun h => by rw [le_int, decide_eq_true_eq] at h; exact h
  · exact hy.imp fun h => Int.le_of_lt h
theorem srtI_perm (ns : List Int) : (srtI ns).Perm ns := List.mergeSort_perm ns _
theorem srtI_rise {ns : List Int} (h : ns.Nodup) : (srtI ns).Pairwise (· < ·) := by
  have h1 : (srtI ns).Pairwise fun a b => (D.int a).le (D.int b) = true := List.pairwise_mergeSort (fun a b c h1 h2 => by rw [le_int, decide_eq_true_eq] at *; omega) (fun a b => by rw [le_int, le_int, Bool.or_eq_true, decide_eq_true_eq, decide_eq_true_eq]; omega) ns
  have h2 : (srtI ns).Pairwise (· ≠ ·) := (srtI_perm ns).nodup_iff.mpr h
  exact (h1.and h2).imp fun ⟨h, h3⟩ => by rw [le_int, decide_eq_true_eq] at h; omega
theorem v_minL {c : Nat} {ns : List Int} {x : Int} (h : S[c]? = some (.lst (ns.map .int))) (e : leastI ns = some x) : biD .min [.ref c] S = .ok (.int x) S := by
  show lft ((lstItems (.ref c) S).bind fun ys => (intsOf ys).bind fun bs => (leastI bs).map D.int) S = _
  simp only [lstItems, h, Option.bind_some, intsOf_map, e, Option.map_some, lft_some]
def absI (x : Int) : Int := if x < 0 then -x else x
def apt (w c o : Nat) : Int := absI (((c / w : Nat) : Int) - ((o / w : Nat) : Int)) + absI (((c % w : Nat) : Int) - ((o % w : Nat) : Int))
def valsP (p : Pl) (w : Nat) (s : List Int) (q : Sn) (c : Nat) (os : List Nat) (bm : Int) : List Int :=
  match q with
  | .rng d f e => (rI (f + 1)).filter fun v => decide ((if (ahd p w s c d : Int) < f then (ahd p w s c d : Int) else (f : Int)) - e ≤ v) && decide (v ≤ (if (ahd p w s c d : Int) < f then (ahd p w s c d : Int) else (f : Int)) + e)
  | .mrk cf => srtI (mkP p w c :: (cf.filter fun q => q.1 == mkP p w c).map (·.2))
  | .bmp => [bm]
  | .nr i o => match leastI (os.map fun x => apt w c x) with
    | none => [0]
    | some l => if l ≤ i then [1] else if o < l then [0] else [0, 1]
def shownP (p : Pl) (w : Nat) (s : List Int) (q : Sn) (b : Bk) (c : Nat) (os : List Nat) (bm : Int) : List Int :=
  match b with
  | .dead => [0]
  | .wild => rI (topS q + 1)
  | .ok => valsP p w s q c os bm
/-- a sensor as the laws draw them -/
def SnOk : Sn → Prop
  | .rng d f _ => 0 ≤ d ∧ d < 4 ∧ f ≤ 1000
  | .mrk cf => cf.length ≤ 1000
  | _ => True
theorem apart_sp {f : Nat} (h : P[f]? = some ⟨3, 5, tApart⟩) {c o : Nat} (hw : 0 < w) (hw8 : w ≤ 8) : callN P g (n + 1) f [.int w, .int c, .int o] S = .ok (.int (apt w c o)) S := by
  refine call_eq h rfl ?_
  simp only [tApart]
  walk_at "ev"
  rw [v_fdiv (by omega) (by omega)]
  walk_at "ev"
  rw [v_fdiv (by omega) (by omega)]
  walk_at "ev"
  rw [Nx_nx]
  walk_at "ev"
  rw [v_mod (by omega)]
  walk_at "ev"
  rw [v_mod (by omega)]
  walk_at "ev"
  rw [Nx_nx]
  walk_at "ev"
  exact fin_pur rfl ⟨rfl, take_same S⟩
theorem lapart_sp {f : Nat} (h : P[f]? = some ⟨3, 4, tLApart⟩) (ok : OkP w p) {c o : Nat} : callN P g (n + 1) f [plD p, .int c, .int o] S = .ok (.int (apt w c o)) S := by
  obtain ⟨l0, e0, e1⟩ := head_at ok
  have hw := ok.w0
  have hw8 := ok.w8
  refine call_eq h rfl ?_
  simp only [tLApart]
  walk_at "ev"
  rw [ix_pl (k := 0) (i := (0 : Int)) e0 rfl]
  walk_at "ev"
  rw [len_str, e1]
  walk_at "ev"
  rw [Nx_nx]
  walk_at "ev"
  rw [v_fdiv (by omega) (by omega)]
  walk_at "ev"
  rw [v_fdiv (by omega) (by omega)]
  walk_at "ev"
  rw [v_mod (by omega)]
  walk_at "ev"
  rw [v_mod (by omega)]
  walk_at "ev"
  exact fin_pur rfl ⟨rfl, take_same S⟩
theorem snD_0 (q : Sn) : ∃ z, ixD (snD q) (.int 0) S = some (.str z) ∧ z = (match q with
    | .rng _ _ _ => ("range" : Str)
    | .mrk _ => "mark"
    | .bmp => "bump"
    | .nr _ _ => "near") := by
  cases q <;> exact ⟨_, rfl, rfl⟩
theorem stop_sp {f : Nat} (h : P[f]? = some ⟨1, 1, tTop⟩) (q : Sn) : callN P g (n + 1) f [snD q] S = .ok (.int (topS q : Nat)) S := by
  refine call_eq h rfl ?_
  simp only [tTop]
  walk_at "ev"
  obtain ⟨z, hz, hz2⟩ := snD_0 (S := S) q
  rw [hz]
  walk_at "ev"
  rw [v_eqStr]
  walk_at "ev"
  cases q with
  | rng d f e =>
    dsimp only at hz2
    subst hz2
    rw [show (("range" : Str) == "range") = true from by decide +kernel]
    walk_at "ev"
    rw [show ixD (snD (.rng d f e)) (.int 2) S = some (.int (f : Int)) from rfl]
    walk_at "ev"
    exact fin_pur rfl ⟨rfl, take_same S⟩
  | mrk cf =>
    dsimp only at hz2
    subst hz2
    rw [show (("mark" : Str) == "range") = false from by decide +kernel]
    walk_at "ev"
    rw [Nx_nx]
    walk_at "ev"
    rw [hz]
    walk_at "ev"
    rw [v_eqStr, show (("mark" : Str) == "mark") = true from by decide +kernel]
    walk_at "ev"
    exact fin_pur rfl ⟨rfl, take_same S⟩
  | bmp =>
    dsimp only at hz2
    subst hz2
    rw [show (("bump" : Str) == "range") = false from by decide +kernel]
    walk_at "ev"
    rw [Nx_nx]
    walk_at "ev"
    rw [hz]
    walk_at "ev"
    rw [v_eqStr, show (("bump" : Str) == "mark") = false from by decide +kernel]
    walk_at "ev"
    rw [Nx_nx]
    walk_at "ev"
    exact fin_pur rfl ⟨rfl, take_same S⟩
  | nr i o =>
    dsimp only at hz2
    subst hz2
    rw [show (("near" : Str) == "range") = false from by decide +kernel]
    walk_at "ev"
    rw [Nx_nx]
    walk_at "ev"
    rw [hz]
    walk_at "ev"
    rw [v_eqStr, show (("near" : Str) == "mark") = false from by decide +kernel]
    walk_at "ev"
    rw [Nx_nx]
    walk_at "ev"
    exact fin_pur rfl ⟨rfl, take_same S⟩
def minI (a b : Int) : Int := if b < a then b else a
theorem v_minI {i j : Int} : biD .min [.int i, .int j] S = .ok (.int (minI i j)) S := rfl
def rgV (t e : Int) (f : Nat) : List Int := (rI (f + 1)).filter fun v => decide (t - e ≤ v) && decide (v ≤ t + e)
theorem vals_rng {s : List Int} {d : Int} {f : Nat} {e : Int} {c : Nat} {os : List Nat} {bm : Int} : valsP p w s (.rng d f e) c os bm = rgV (minI f (ahd p w s c d : Nat)) e f := rfl
/-- what a hypothesis on the callee says -/
def AhSp (P : List Fn) (g : Nat → Option D) (n ah : Nat) (p : Pl) (w : Nat) (s : List Int) : Prop := ∀ {c : Nat} {d : Int} {S : Sto}, 0 ≤ d → d < 4 → callN P g n ah [plD p, tI s, .int (c : Int), .int d] S = .ok (.int (ahd p w s c d : Nat)) S
theorem range_sp {f ah : Nat} (h : P[f]? = some ⟨4, 8, tRange ah⟩) {s : List Int} (hah : AhSp P g n ah p w s) {d : Int} {far : Nat} {e : Int} (h0 : 0 ≤ d) (h4 : d < 4) (hf : far ≤ 1000) {c : Nat} :
    callN P g (n + 1) f [plD p, tI s, snD (.rng d far e), .int (c : Int)] S = .ok (tI (rgV (minI far (ahd p w s c d : Nat)) e far)) S := by
  refine call_eq h rfl ?_
  simp only [tRange]
  walk_at "ev"
  rw [show ∀ S, ixD (snD (.rng d far e)) (.int 2) S = some (.int (far : Int)) from fun _ => rfl]
  walk_at "ev"
  rw [Nx_nx]
  walk_at "ev"
  rw [show ∀ S, ixD (snD (.rng d far e)) (.int 3) S = some (.int e) from fun _ => rfl]
  walk_at "ev"
  rw [Nx_nx]
  walk_at "ev"
  rw [show ∀ S, ixD (snD (.rng d far e)) (.int 1) S = some (.int d) from fun _ => rfl]
  walk_at "ev"
  rw [hah h0 h4]
  walk_at "ev"
  rw [v_minI]
  walk_at "ev"
  rw [Nx_nx]
  walk_at "ev"
  rw [show ((far : Int) + 1) = ((far + 1 : Nat) : Int) from rfl, v_rangeB (by omega)]
  walk_at "ev"
  generalize minI far (ahd p w s c d : Nat) = t
  refine W_compF (fun v => decide (t - e ≤ v) && decide (v ≤ t + e)) D.int (good_nil _) (fun v _ => ?_) ?_
  · walk_at "ev"
    rw [le_ndlt, le_ndlt]
    cases decide (t - e ≤ v) <;> cases decide (v ≤ t + e) <;> rfl
  · walk_at "ev"
    rw [sr_ref (getN S _ [])]
    walk_at "ev"
    exact fin_pur (pur_tI _) ⟨rfl, take_self S _⟩
def mkV (m : Int) (cf : List (Int × Int)) : List Int := m :: (cf.filter fun q => q.1 == m).map (·.2)
theorem vals_mrk {s : List Int} {cf : List (Int × Int)} {c : Nat} {os : List Nat} {bm : Int} : valsP p w s (.mrk cf) c os bm = srtI (mkV (mkP p w c) cf) := rfl
theorem markv_sp {f mk : Nat} (h : P[f]? = some ⟨3, 7, tMarkV mk⟩) {c : Nat} {m : Int} (hmk : ∀ S : Sto, callN P g n mk [plD p, .int (c : Int)] S = .ok (.int m) S) {cf : List (Int × Int)} (hl : cf.length ≤ 1000) :
    callN P g (n + 1) f [plD p, snD (.mrk cf), .int (c : Int)] S = .ok (tI (srtI (mkV m cf))) S := by
  refine call_eq h rfl ?_
  simp only [tMarkV]
  walk_at "ev"
  rw [hmk]
  walk_at "ev"
  rw [Nx_nx]
  walk_at "ev"
  rw [Nx_nx]
  walk_at "ev"
  rw [show ∀ S, ixD (snD (.mrk cf)) (.int 1) S = some (.tup (cf.map prD)) from fun _ => rfl]
  walk_at "ev"
  refine W_forM (fun dn ρ S' => ∃ o5 o6, S' = S ++ [.lst ((mkV m dn).map .int)] ∧ ρ = [some (plD p), some (snD (.mrk cf)), some (.int (c : Int)), some (.int m), some (.ref S.length), o5, o6]) ⟨_, _, rfl, rfl⟩ (fun _ _ _ _ => good_nil _) (fun dn q rest ρ S' e ⟨o5, o6, h1, h2⟩ => ?_) fun ρ S' ⟨o5, o6, h1, h2⟩ => ?_
  · subst h1 h2
    have hdn := congrArg List.length e
    rw [List.length_append, List.length_cons] at hdn
    show W (Turn _ _ _ (.tup [.int q.1, .int q.2]) _ _) _
    unfold Turn
    rw [asg2, lft_some, R.bind_ok]
    walk_at "ev"
    by_cases hq : q.1 = m
    · have e1 : (q.1 == m) = true := by simpa using hq
      rw [e1]
      walk_at "ev"
      rw [mtOk_l (getN S _ [])]
      walk_at "ev"
      rw [v_app (getN S _ []) (by rw [List.length_map]; unfold mkV; rw [List.length_cons, List.length_map]; have := List.length_filter_le (fun q : Int × Int => q.1 == m) dn; unfold sizeMax; omega) rfl, setN]
      walk_at "ev"
      rw [Nx_nx]
      walk_at "ev"
      rw [Nx_nx]
      walk_at "ev"
      refine ⟨_, _, ?_, rfl⟩
      unfold mkV
      rw [List.filter_append, List.filter_cons, if_pos e1, List.filter_nil, List.map_append]
      simp
    · have e1 : (q.1 == m) = false := by simpa using hq
      rw [e1]
      walk_at "ev"
      rw [Nx_nx]
      walk_at "ev"
      refine ⟨_, _, ?_, rfl⟩
      unfold mkV
      rw [List.filter_append, List.filter_cons, if_neg (by rw [e1]; decide), List.filter_nil, List.append_nil]
  · subst h1 h2
    rw [Nx_nx]
    walk_at "ev"
    rw [v_sortI (it_ref (getN S _ []))]
    walk_at "ev"
    rw [sr_ref (getN _ _ [])]
    walk_at "ev"
    rw [List.append_assoc]
    exact fin_pur (pur_tI _) ⟨rfl, take_self S _⟩
def nrV (l : Option Int) (i o : Int) : List Int := match l with
  | none => [0]
  | some l => if l ≤ i then [1] else if o < l then [0] else [0, 1]
theorem vals_nr {s : List Int} {i o : Int} {c : Nat} {os : List Nat} {bm : Int} : valsP p w s (.nr i o) c os bm = nrV (leastI (os.map fun x => apt w c x)) i o := rfl
theorem least_some {ns : List Int} (h : 0 < ns.length) : ∃ l, leastI ns = some l := by
  cases ns with
  | nil => cases h
  | cons x ns => exact ⟨_, rfl⟩
theorem len_tN {l : List Nat} : (nI l).length = l.length := by simp [nI]
theorem nearv_sp {f ca : Nat} (h : P[f]? = some ⟨4, 6, tNearV ca⟩) (hca : P[ca]? = some ⟨3, 5, tApart⟩) (hw : 0 < w) (hw8 : w ≤ 8) {i o : Int} {c : Nat} {os : List Nat} :
    callN P g (n + 2) f [.int (w : Int), snD (.nr i o), .int (c : Int), tN os] S = .ok (tI (nrV (leastI (os.map fun x => apt w c x)) i o)) S := by
  refine call_eq h rfl ?_
  simp only [tNearV]
  walk_at "ev"
  rw [v_lenN]
  walk_at "ev"
  by_cases h0 : os.length = 0
  · have : os = [] := List.length_eq_zero_iff.mp h0
    subst this
    rw [show (((([] : List Nat).length : Nat) : Int) == 0) = true from rfl]
    walk_at "ev"
    exact fin_pur rfl ⟨rfl, take_same S⟩
  · rw [show (((os.length : Nat) : Int) == 0) = false by rw [beq_eq_false_iff_ne]; omega]
    walk_at "ev"
    rw [Nx_nx]
    walk_at "ev"
    obtain ⟨l, hl⟩ := least_some (ns := os.map fun x => apt w c x) (by rw [List.length_map]; omega)
    rw [hl]
    rw [show (tN os) = .tup (os.map fun (x : Nat) => D.int (x : Int)) by unfold tN nI tI; rw [List.map_map]; rfl]
    walk_at "ev"
    refine W_compM (fun x => D.int (apt w c x)) (good_nil _) (fun x _ => ?_) ?_
    · walk_at "ev"
      rw [show callN P g (n + 1) ca [.int (w : Int), .int (c : Int), .int (x : Int)] S = _ from apart_sp (n := n) hca hw hw8]
      walk_at "ev"
    · walk_at "ev"
      rw [v_minL (ns := os.map fun x => apt w c x) (by rw [List.map_map]; exact getN S _ []) hl]
      walk_at "ev"
      rw [Nx_nx]
      walk_at "ev"
      rw [show ∀ S, ixD (snD (.nr i o)) (.int 1) S = some (.int i) from fun _ => rfl]
      walk_at "ev"
      rw [show nrV (some l) i o = if l ≤ i then [1] else if o < l then [0] else [0, 1] from rfl]
      refine Br_if (fun hc => ?_) fun hc => ?_
      · have hc : l ≤ i := by rw [le_ndlt] at hc; exact of_decide_eq_true hc
        rw [if_pos hc]
        walk_at "ev"
        exact fin_pur rfl ⟨rfl, take_self S _⟩
      · have hc : ¬ l ≤ i := by rw [le_ndlt] at hc; exact of_decide_eq_false hc
        rw [if_neg hc]
        walk_at "ev"
        rw [Nx_nx]
        walk_at "ev"
        rw [show ∀ S, ixD (snD (.nr i o)) (.int 2) S = some (.int o) from fun _ => rfl]
        walk_at "ev"
        refine Br_if (fun hc => ?_) fun hc => ?_
        · rw [if_pos (of_decide_eq_true hc)]
          walk_at "ev"
          exact fin_pur rfl ⟨rfl, take_self S _⟩
        · rw [if_neg (of_decide_eq_false hc)]
          walk_at "ev"
          rw [Nx_nx]
          walk_at "ev"
          exact fin_pur rfl ⟨rfl, take_self S _⟩
theorem v_eqN {z : Str} : cmpD .eq .non (.str z) S = some false := rfl
theorem str_neq {a b : Str} (h : (a == b) = false) : cmpD .eq (.str a) (.str b) S = some false := by rw [v_eqStr, h]
theorem sens_sp {f tp rg mv nv wd ah mk ca : Nat} (h : P[f]? = some ⟨7, 7, tSens tp rg mv nv wd⟩) (htp : P[tp]? = some ⟨1, 1, tTop⟩) (hrg : P[rg]? = some ⟨4, 8, tRange ah⟩) (hmv : P[mv]? = some ⟨3, 7, tMarkV mk⟩) (hnv : P[nv]? = some ⟨4, 6, tNearV ca⟩)
    (hwd : P[wd]? = some ⟨1, 1, tWid⟩) (hca : P[ca]? = some ⟨3, 5, tApart⟩) (ok : OkP w p) {s : List Int} (hah : AhSp P g (n + 1) ah p w s) {c : Nat} (hmk : ∀ S : Sto, callN P g (n + 1) mk [plD p, .int (c : Int)] S = .ok (.int (mkP p w c)) S)
    {q : Sn} (hq : SnOk q) {b : Bk} {os : List Nat} {bm : Int} :
    callN P g (n + 3) f [plD p, tI s, snD q, bkD b, .int (c : Int), tN os, .int bm] S = .ok (tI (shownP p w s q b c os bm)) S := by
  refine call_eq h rfl ?_
  simp only [tSens]
  walk_at "ev"
  have n1 : (("dead" : Str) == "dead") = true := by decide +kernel
  have n2 : (("wild" : Str) == "dead") = false := by decide +kernel
  have n3 : (("wild" : Str) == "wild") = true := by decide +kernel
  cases b with
  | dead =>
    rw [show cmpD .eq (bkD .dead) (.str "dead") S = some true from by rw [bkD, v_eqStr, n1]]
    walk_at "ev"
    exact fin_pur rfl ⟨rfl, take_same S⟩
  | wild =>
    rw [show cmpD .eq (bkD .wild) (.str "dead") S = some false from by rw [bkD, v_eqStr, n2]]
    walk_at "ev"
    rw [Nx_nx]
    walk_at "ev"
    rw [show cmpD .eq (bkD .wild) (.str "wild") S = some true from by rw [bkD, v_eqStr, n3]]
    walk_at "ev"
    rw [show callN P g (n + 2) tp [snD q] S = _ from stop_sp (n := n + 1) htp q]
    walk_at "ev"
    have hl : topS q + 1 ≤ 100000 := by
      cases q with
      | rng d f e => have := hq.2.2; show f + 1 ≤ _; omega
      | mrk cf => exact (by decide : (9 : Nat) ≤ 100000)
      | bmp => exact (by decide : (2 : Nat) ≤ 100000)
      | nr i o => exact (by decide : (2 : Nat) ≤ 100000)
    rw [show ((topS q : Int) + 1) = ((topS q + 1 : Nat) : Int) from rfl, v_rangeB hl]
    walk_at "ev"
    exact fin_pur (pur_tI _) ⟨rfl, take_same S⟩
  | ok =>
    rw [show cmpD .eq (bkD .ok) (.str "dead") S = some false from rfl]
    walk_at "ev"
    rw [Nx_nx]
    walk_at "ev"
    rw [show cmpD .eq (bkD .ok) (.str "wild") S = some false from rfl]
    walk_at "ev"
    rw [Nx_nx]
    walk_at "ev"
    show W _ (fun _ _ => _)
    cases q with
    | rng d far e =>
      rw [show ixD (snD (.rng d far e)) (.int 0) S = some (.str "range") from rfl]
      walk_at "ev"
      rw [v_eqStr, show (("range" : Str) == "range") = true from by decide +kernel]
      walk_at "ev"
      rw [show callN P g (n + 2) rg [plD p, tI s, snD (.rng d far e), .int (c : Int)] S = _ from range_sp (n := n + 1) hrg hah hq.1 hq.2.1 hq.2.2]
      walk_at "ev"
      exact fin_pur (pur_tI _) ⟨rfl, take_same S⟩
    | mrk cf =>
      rw [show ixD (snD (.mrk cf)) (.int 0) S = some (.str "mark") from rfl]
      walk_at "ev"
      rw [v_eqStr, show (("mark" : Str) == "range") = false from by decide +kernel]
      walk_at "ev"
      rw [Nx_nx]
      walk_at "ev"
      rw [show ixD (snD (.mrk cf)) (.int 0) S = some (.str "mark") from rfl]
      walk_at "ev"
      rw [v_eqStr, show (("mark" : Str) == "mark") = true from by decide +kernel]
      walk_at "ev"
      rw [show callN P g (n + 2) mv [plD p, snD (.mrk cf), .int (c : Int)] S = _ from markv_sp (n := n + 1) hmv hmk hq]
      walk_at "ev"
      exact fin_pur (pur_tI _) ⟨rfl, take_same S⟩
    | bmp =>
      rw [show ixD (snD .bmp) (.int 0) S = some (.str "bump") from rfl]
      walk_at "ev"
      rw [v_eqStr, show (("bump" : Str) == "range") = false from by decide +kernel]
      walk_at "ev"
      rw [Nx_nx]
      walk_at "ev"
      rw [show ixD (snD .bmp) (.int 0) S = some (.str "bump") from rfl]
      walk_at "ev"
      rw [v_eqStr, show (("bump" : Str) == "mark") = false from by decide +kernel]
      walk_at "ev"
      rw [Nx_nx]
      walk_at "ev"
      rw [show ixD (snD .bmp) (.int 0) S = some (.str "bump") from rfl]
      walk_at "ev"
      rw [v_eqStr, show (("bump" : Str) == "bump") = true from by decide +kernel]
      walk_at "ev"
      exact fin_pur rfl ⟨rfl, take_same S⟩
    | nr i o =>
      rw [show ixD (snD (.nr i o)) (.int 0) S = some (.str "near") from rfl]
      walk_at "ev"
      rw [v_eqStr, show (("near" : Str) == "range") = false from by decide +kernel]
      walk_at "ev"
      rw [Nx_nx]
      walk_at "ev"
      rw [show ixD (snD (.nr i o)) (.int 0) S = some (.str "near") from rfl]
      walk_at "ev"
      rw [v_eqStr, show (("near" : Str) == "mark") = false from by decide +kernel]
      walk_at "ev"
      rw [Nx_nx]
      walk_at "ev"
      rw [show ixD (snD (.nr i o)) (.int 0) S = some (.str "near") from rfl]
      walk_at "ev"
      rw [v_eqStr, show (("near" : Str) == "bump") = false from by decide +kernel]
      walk_at "ev"
      rw [Nx_nx]
      walk_at "ev"
      rw [show callN P g (n + 2) wd [plD p] S = _ from wid_sp (n := n + 1) hwd ok]
      walk_at "ev"
      rw [show callN P g (n + 2) nv [.int (w : Int), snD (.nr i o), .int (c : Int), tN os] S = _ from nearv_sp (n := n) hnv hca ok.w0 ok.w8]
      walk_at "ev"
      exact fin_pur (pur_tI _) ⟨rfl, take_same S⟩
/-- the law's own -/
def tLVals (tp ah mk ca : Nat) : T := (.seq (.ife (.cmp .eq (.var 3) (.cs "dead")) (.seq (.ret (.lst (.cons (.num 0) .nil))) .skip) .skip) (.seq (.ife (.cmp .eq (.var 3) (.cs "wild")) (.seq (.ret (.listOf (.range1 (.bin .add (.call tp (.cons (.var 2) .nil)) (.num 1))))) .skip) .skip) (.seq (.ife (.cmp .eq (.ix (.var 2) (.num 0)) (.cs "range")) (.seq (.set 7 (.bi .min (.cons (.ix (.var 2) (.num 2)) (.cons (.call ah (.cons (.var 0) (.cons (.var 1) (.cons (.var 4) (.cons (.ix (.var 2) (.num 1)) .nil))))) .nil)))) (.seq (.ret (.comp [8] (.range1 (.bin .add (.ix (.var 2) (.num 2)) (.num 1))) (.chain .le .le (.bin .sub (.var 7) (.ix (.var 2) (.num 3))) (.var 8) (.bin .add (.var 7) (.ix (.var 2) (.num 3)))) (.var 8))) .skip)) .skip) (.seq (.ife (.cmp .eq (.ix (.var 2) (.num 0)) (.cs "mark")) (.seq (.set 9 (.call mk (.cons (.var 0) (.cons (.var 4) .nil)))) (.seq (.ret (.bi .sorted (.cons (.bin .add (.lst (.cons (.var 9) .nil)) (.comp [10] (.ix (.var 2) (.num 1)) (.cmp .eq (.ix (.var 10) (.num 0)) (.var 9)) (.ix (.var 10) (.num 1)))) .nil))) .skip)) .skip) (.seq (.ife (.cmp .eq (.ix (.var 2) (.num 0)) (.cs "bump")) (.seq (.ret (.lst (.cons (.var 6) .nil))) .skip) .skip) (.seq (.ife (.cmp .eq (.bi .len (.cons (.var 5) .nil)) (.num 0)) (.seq (.ret (.lst (.cons (.num 0) .nil))) .skip) .skip) (.seq (.set 11 (.bi .min (.cons (.comp [12] (.var 5) .nil (.call ca (.cons (.var 0) (.cons (.var 4) (.cons (.var 12) .nil))))) .nil))) (.seq (.ife (.cmp .le (.var 11) (.ix (.var 2) (.num 1))) (.seq (.ret (.lst (.cons (.num 1) .nil))) .skip) .skip) (.seq (.ife (.cmp .gt (.var 11) (.ix (.var 2) (.num 2))) (.seq (.ret (.lst (.cons (.num 0) .nil))) .skip) .skip) (.seq (.ret (.lst (.cons (.num 0) (.cons (.num 1) .nil)))) .skip))))))))))
theorem lret {v : List Int} {T : Sto} (e : (S ++ T)[S.length + (T.length - 1)]? = some (.lst (v.map .int))) (hT : 0 < T.length) {a : Nat} (ha : a = S.length + (T.length - 1)) : Fin S.length (fun v' S' => v' = .ref S.length ∧ S' = S ++ [.lst (v.map .int)]) (.rt (.ref a)) (S ++ T) := by
  subst ha
  exact fin_new (Nat.le_add_right _ _) e (purs_int v) ⟨rfl, by rw [take_self]⟩
theorem lvals_sp {f tp ah mk ca : Nat} (h : P[f]? = some ⟨7, 13, tLVals tp ah mk ca⟩) (htp : P[tp]? = some ⟨1, 1, tTop⟩) (hca : P[ca]? = some ⟨3, 4, tLApart⟩) (ok : OkP w p) {s : List Int} (hah : AhSp P g (n + 1) ah p w s) {c : Nat} (hmk : ∀ S : Sto, callN P g (n + 1) mk [plD p, .int (c : Int)] S = .ok (.int (mkP p w c)) S)
    {q : Sn} (hq : SnOk q) {b : Bk} {os : List Nat} {bm : Int} :
    callN P g (n + 2) f [plD p, tI s, snD q, bkD b, .int (c : Int), tN os, .int bm] S = .ok (.ref S.length) (S ++ [.lst ((shownP p w s q b c os bm).map .int)]) := by
  refine call_eq h rfl ?_
  simp only [tLVals]
  walk_at "ev"
  have n1 : (("dead" : Str) == "dead") = true := by decide +kernel
  have n2 : (("wild" : Str) == "dead") = false := by decide +kernel
  have n3 : (("wild" : Str) == "wild") = true := by decide +kernel
  cases b with
  | dead =>
    rw [show cmpD .eq (bkD .dead) (.str "dead") S = some true from by rw [bkD, v_eqStr, n1]]
    walk_at "ev"
    exact lret (v := [0]) (T := [.lst [.int 0]]) (getN S _ []) (by simp) rfl
  | wild =>
    rw [show cmpD .eq (bkD .wild) (.str "dead") S = some false from by rw [bkD, v_eqStr, n2]]
    walk_at "ev"
    rw [Nx_nx]
    walk_at "ev"
    rw [show cmpD .eq (bkD .wild) (.str "wild") S = some true from by rw [bkD, v_eqStr, n3]]
    walk_at "ev"
    rw [show callN P g (n + 1) tp [snD q] S = _ from stop_sp (n := n) htp q]
    walk_at "ev"
    have hl : topS q + 1 ≤ 100000 := by
      cases q with
      | rng d f e => have := hq.2.2; show f + 1 ≤ _; omega
      | mrk cf => exact (by decide : (9 : Nat) ≤ 100000)
      | bmp => exact (by decide : (2 : Nat) ≤ 100000)
      | nr i o => exact (by decide : (2 : Nat) ≤ 100000)
    rw [show ((topS q : Int) + 1) = ((topS q + 1 : Nat) : Int) from rfl, v_rangeB hl]
    walk_at "ev"
    exact lret (v := rI (topS q + 1)) (T := [.lst ((rI (topS q + 1)).map .int)]) (getN S _ []) (by simp) rfl
  | ok =>
    rw [show cmpD .eq (bkD .ok) (.str "dead") S = some false from rfl]
    walk_at "ev"
    rw [Nx_nx]
    walk_at "ev"
    rw [show cmpD .eq (bkD .ok) (.str "wild") S = some false from rfl]
    walk_at "ev"
    rw [Nx_nx]
    walk_at "ev"
    cases q with
    | rng d far e =>
      rw [show ixD (snD (.rng d far e)) (.int 0) S = some (.str "range") from rfl]
      walk_at "ev"
      rw [v_eqStr, show (("range" : Str) == "range") = true from by decide +kernel]
      walk_at "ev"
      rw [show ∀ S, ixD (snD (.rng d far e)) (.int 2) S = some (.int (far : Int)) from fun _ => rfl]
      walk_at "ev"
      rw [show ∀ S, ixD (snD (.rng d far e)) (.int 1) S = some (.int d) from fun _ => rfl]
      walk_at "ev"
      rw [hah hq.1 hq.2.1]
      walk_at "ev"
      rw [v_minI]
      walk_at "ev"
      rw [Nx_nx]
      walk_at "ev"
      rw [show ∀ S, ixD (snD (.rng d far e)) (.int 2) S = some (.int (far : Int)) from fun _ => rfl]
      walk_at "ev"
      rw [show ((far : Int) + 1) = ((far + 1 : Nat) : Int) from rfl, v_rangeB (by have := hq.2.2; omega)]
      walk_at "ev"
      rw [show shownP p w s (.rng d far e) .ok c os bm = rgV (minI far (ahd p w s c d : Nat)) e far from rfl]
      generalize minI far (ahd p w s c d : Nat) = t
      refine W_compF (fun v => decide (t - e ≤ v) && decide (v ≤ t + e)) D.int (good_nil _) (fun v _ => ?_) ?_
      · walk_at "ev"
        rw [show ∀ S, ixD (snD (.rng d far e)) (.int 3) S = some (.int e) from fun _ => rfl]
        walk_at "ev"
        rw [show ∀ S, ixD (snD (.rng d far e)) (.int 3) S = some (.int e) from fun _ => rfl]
        walk_at "ev"
        rw [le_ndlt, le_ndlt]
        cases decide (t - e ≤ v) <;> cases decide (v ≤ t + e) <;> rfl
      · walk_at "ev"
        exact lret (v := rgV t e far) (T := [.lst ((rgV t e far).map .int)]) (getN S _ []) (by simp) rfl
    | mrk cf =>
      rw [show ixD (snD (.mrk cf)) (.int 0) S = some (.str "mark") from rfl]
      walk_at "ev"
      rw [v_eqStr, show (("mark" : Str) == "range") = false from by decide +kernel]
      walk_at "ev"
      rw [Nx_nx]
      walk_at "ev"
      rw [show ixD (snD (.mrk cf)) (.int 0) S = some (.str "mark") from rfl]
      walk_at "ev"
      rw [v_eqStr, show (("mark" : Str) == "mark") = true from by decide +kernel]
      walk_at "ev"
      rw [hmk]
      walk_at "ev"
      rw [Nx_nx]
      walk_at "ev"
      rw [show ∀ S, ixD (snD (.mrk cf)) (.int 1) S = some (.tup (cf.map prD)) from fun _ => rfl]
      walk_at "ev"
      generalize hm : mkP p w c = m
      refine W_compF (fun q : Int × Int => q.1 == m) (fun q => D.int q.2) (good_nil _) (fun v _ => ?_) ?_
      · walk_at "ev"
        rw [show ∀ S, ixD (prD v) (.int 0) S = some (.int v.1) from fun _ => rfl]
        walk_at "ev"
        cases hv : (v.1 == m) with
        | true =>
          walk_at "ev"
          rw [show ∀ S, ixD (prD v) (.int 1) S = some (.int v.2) from fun _ => rfl]
          walk_at "ev"
        | false => walk_at "ev"
      · walk_at "ev"
        have hl : cf.length ≤ 1000 := hq
        have h2 := getN (S ++ [.lst [.int m]]) (.lst ((cf.filter fun q => q.1 == m).map fun q => D.int q.2)) []
        have h1 := getL (T := [.lst ((cf.filter fun q => q.1 == m).map fun q => D.int q.2)]) (getN S (.lst [.int m]) [])
        rw [v_lcat h1 h2 (by rw [List.length_map]; have := List.length_filter_le (fun q : Int × Int => q.1 == m) cf; simp; unfold sizeMax; omega)]
        walk_at "ev"
        have e1 : (D.int m :: (cf.filter fun q => q.1 == m).map fun q => D.int q.2) = (mkV m cf).map .int := by
          unfold mkV
          rw [List.map_cons, List.map_map]
          rfl
        rw [e1, v_sortI (it_ref (getN _ _ []))]
        walk_at "ev"
        rw [show shownP p w s (.mrk cf) .ok c os bm = srtI (mkV (mkP p w c) cf) from rfl, hm]
        simp only [List.append_assoc, List.cons_append, List.nil_append]
        refine lret (v := srtI (mkV m cf)) ?_ (by simp) (by simp)
        rw [List.getElem?_append_right (by simp)]
        simp
    | bmp =>
      rw [show ixD (snD .bmp) (.int 0) S = some (.str "bump") from rfl]
      walk_at "ev"
      rw [v_eqStr, show (("bump" : Str) == "range") = false from by decide +kernel]
      walk_at "ev"
      rw [Nx_nx]
      walk_at "ev"
      rw [show ixD (snD .bmp) (.int 0) S = some (.str "bump") from rfl]
      walk_at "ev"
      rw [v_eqStr, show (("bump" : Str) == "mark") = false from by decide +kernel]
      walk_at "ev"
      rw [Nx_nx]
      walk_at "ev"
      rw [show ixD (snD .bmp) (.int 0) S = some (.str "bump") from rfl]
      walk_at "ev"
      rw [v_eqStr, show (("bump" : Str) == "bump") = true from by decide +kernel]
      walk_at "ev"
      exact lret (v := [bm]) (T := [.lst [.int bm]]) (getN S _ []) (by simp) rfl
    | nr i o =>
      rw [show ixD (snD (.nr i o)) (.int 0) S = some (.str "near") from rfl]
      walk_at "ev"
      rw [v_eqStr, show (("near" : Str) == "range") = false from by decide +kernel]
      walk_at "ev"
      rw [Nx_nx]
      walk_at "ev"
      rw [show ixD (snD (.nr i o)) (.int 0) S = some (.str "near") from rfl]
      walk_at "ev"
      rw [v_eqStr, show (("near" : Str) == "mark") = false from by decide +kernel]
      walk_at "ev"
      rw [Nx_nx]
      walk_at "ev"
      rw [show ixD (snD (.nr i o)) (.int 0) S = some (.str "near") from rfl]
      walk_at "ev"
      rw [v_eqStr, show (("near" : Str) == "bump") = false from by decide +kernel]
      walk_at "ev"
      rw [Nx_nx]
      walk_at "ev"
      rw [v_lenN]
      walk_at "ev"
      rw [show shownP p w s (.nr i o) .ok c os bm = nrV (leastI (os.map fun x => apt w c x)) i o from rfl]
      by_cases h0 : os.length = 0
      · have : os = [] := List.length_eq_zero_iff.mp h0
        subst this
        rw [show (((([] : List Nat).length : Nat) : Int) == 0) = true from rfl]
        walk_at "ev"
        exact lret (v := [0]) (T := [.lst [.int 0]]) (getN S _ []) (by simp) rfl
      · rw [show (((os.length : Nat) : Int) == 0) = false by rw [beq_eq_false_iff_ne]; omega]
        walk_at "ev"
        rw [Nx_nx]
        walk_at "ev"
        obtain ⟨l, hl⟩ := least_some (ns := os.map fun x => apt w c x) (by rw [List.length_map]; omega)
        rw [hl]
        rw [show (tN os) = .tup (os.map fun (x : Nat) => D.int (x : Int)) by unfold tN nI tI; rw [List.map_map]; rfl]
        walk_at "ev"
        refine W_compM (fun x => D.int (apt w c x)) (good_nil _) (fun x _ => ?_) ?_
        · walk_at "ev"
          rw [show callN P g (n + 1) ca [plD p, .int (c : Int), .int (x : Int)] S = _ from lapart_sp (n := n) hca ok]
          walk_at "ev"
        · walk_at "ev"
          rw [v_minL (ns := os.map fun x => apt w c x) (by rw [List.map_map]; exact getN S _ []) hl]
          walk_at "ev"
          rw [Nx_nx]
          walk_at "ev"
          rw [show ∀ S, ixD (snD (.nr i o)) (.int 1) S = some (.int i) from fun _ => rfl]
          walk_at "ev"
          rw [show nrV (some l) i o = if l ≤ i then [1] else if o < l then [0] else [0, 1] from rfl]
          refine Br_if (fun hc => ?_) fun hc => ?_
          · have hc : l ≤ i := by rw [le_ndlt] at hc; exact of_decide_eq_true hc
            rw [if_pos hc]
            walk_at "ev"
            rw [List.append_assoc]
            refine lret (v := [1]) ?_ (by simp) (by simp)
            rw [List.getElem?_append_right (by simp)]
            simp
          · have hc : ¬ l ≤ i := by rw [le_ndlt] at hc; exact of_decide_eq_false hc
            rw [if_neg hc]
            walk_at "ev"
            rw [Nx_nx]
            walk_at "ev"
            rw [show ∀ S, ixD (snD (.nr i o)) (.int 2) S = some (.int o) from fun _ => rfl]
            walk_at "ev"
            refine Br_if (fun hc => ?_) fun hc => ?_
            · rw [if_pos (of_decide_eq_true hc)]
              walk_at "ev"
              rw [List.append_assoc]
              refine lret (v := [0]) ?_ (by simp) (by simp)
              rw [List.getElem?_append_right (by simp)]
              simp
            · rw [if_neg (of_decide_eq_false hc)]
              walk_at "ev"
              rw [Nx_nx]
              walk_at "ev"
              rw [List.append_assoc]
              refine lret (v := [0, 1]) ?_ (by simp) (by simp)
              rw [List.getElem?_append_right (by simp)]
              simp
end
section
variable {P : List Fn} {g : Nat → Option D} {n dw : Nat} {w : Nat} {p : Pl} {cells : List Int} {a b s : Int} {L : Sto}
theorem pickS2_sp {f : Nat} (h : P[f]? = some ⟨2, 2, tPick dw⟩) (hd : P[dw]? = some ⟨2, 5, tDraw⟩) {z : Str} (ha : 0 ≤ a) (hb : 0 ≤ b) (h1 : 0 < z.length) (h2 : z.length < 1000) : W (callN P g (n + 2) f [.ref 1, .str z] (DS cells a b s ++ L)) (DQ cells L fun v => ∃ c ∈ z.cps.toList, v = .str ⟨#[c]⟩) := by
  refine W_call h rfl ?_
  simp only [tPick, ds_len]
  walk_at "ev"
  rw [len_str]
  walk_at "ev"
  refine W_drw (n := n) (g := g) hd ha hb (by omega) (by omega) fun r a1 b1 s1 hr0 hr1 ha1 hb1 => ?_
  have hk : r.toNat < z.cps.toList.length := by
    have : z.cps.toList.length = z.length := by simp [Str.length]
    omega
  rw [v_ixS (k := r.toNat) (by omega) (List.getElem?_eq_getElem hk)]
  walk_at "ev"
  exact fin_ds0 rfl ha1 hb1 ⟨_, List.getElem_mem hk, rfl⟩
def tLFloor (dw pi : Nat) : T := (.seq (.set 4 (.bin .add (.slice (.cs "123456") .nil (.cons (.var 3) .nil)) (.slice (.cs "ABCDEF") .nil (.cons (.var 3) .nil)))) (.seq (.set 5 (.ix (.lst (.cons (.bin .add (.cs "......,+ah#") (.var 4)) (.cons (.bin .add (.cs ".,+abcdefgh#*!") (.var 4)) (.cons (.bin .add (.bin .add (.cs "..!!*#") (.var 4)) (.var 4)) .nil)))) (.call dw (.cons (.var 0) (.cons (.num 3) .nil))))) (.seq (.set 6 (.comp [7] (.range1 (.bin .mul (.var 1) (.var 2))) .nil (.call pi (.cons (.var 0) (.cons (.var 5) .nil))))) (.seq (.setIx (.var 6) (.call dw (.cons (.var 0) (.cons (.bin .mul (.var 1) (.var 2)) .nil))) (.call pi (.cons (.var 0) (.cons (.cs ".,+abcdefgh") .nil)))) (.seq (.ret (.tupOf (.comp [7] (.range1 (.var 1)) .nil (.bi .join (.cons (.cs "") (.cons (.slice (.var 6) (.cons (.bin .mul (.var 7) (.var 2)) .nil) (.cons (.bin .mul (.bin .add (.var 7) (.num 1)) (.var 2)) .nil)) .nil)))))) .skip)))))
/-- a sign of a cell that is free whatever the setting -/
def frC (c : Nat) : Prop := c = 46 ∨ c = 44 ∨ c = 43 ∨ (97 ≤ c ∧ c ≤ 104)
theorem frC_free {c : Nat} (h : frC c) (s : List Int) : kdS c s = "free" := by
  unfold frC at h
  unfold kdS
  rw [if_neg (by omega), if_neg (by omega), if_neg (by omega), if_neg (by omega), if_neg (by omega)]
theorem frC_mem {c : Nat} (h : c ∈ (".,+abcdefgh" : Str).cps.toList) : frC c := by
  have e : (".,+abcdefgh" : Str).cps.toList = [46, 44, 43, 97, 98, 99, 100, 101, 102, 103, 104] := by decide +kernel
  rw [e] at h
  simp only [List.mem_cons, List.not_mem_nil, or_false] at h
  unfold frC
  omega
theorem str_cat (x y : Str) : (x ++ y).length = x.length + y.length := Array.size_append ..
theorem v_scat {S : Sto} {x y : Str} (h : x.length + y.length ≤ 1000) : binD .add (.str x) (.str y) S = .ok (.str (x ++ y)) S := if_pos (by unfold sizeMax; omega)
theorem v_slStr {S : Sto} {z : Str} {k : Nat} (hz : k ≤ z.length) : ∃ y : Str, y.length = k ∧ sliceD (.str z) none (some (k : Int)) S = .ok (.str y) S := by
  refine ⟨⟨(cutC z.cps.toList none (some (k : Int))).toArray⟩, ?_, rfl⟩
  show (cutC z.cps.toList none (some (k : Int))).toArray.size = k
  have hl : z.cps.toList.length = z.length := by simp [Str.length]
  unfold cutC
  simp only [sIx, List.drop_zero, List.size_toArray, List.length_take, hl]
  rw [if_neg (by omega)]
  omega
def FlrP (w l : Nat) : D → Prop := fun v => ∃ p : Pl, v = plD p ∧ OkP w p ∧ p.length = l ∧ ∃ c, c < w * p.length ∧ frC (chr p w c)
theorem cutL {xs : List D} {lo hi : Nat} (h1 : lo ≤ hi) (h2 : hi ≤ xs.length) : cutD xs (some (lo : Int)) (some (hi : Int)) = (xs.drop lo).take (hi - lo) := by
  unfold cutD
  simp only [sIx]
  rw [if_neg (by omega), if_neg (by omega)]
  rw [show min (lo : Int).toNat xs.length = lo by omega, show min (hi : Int).toNat xs.length = hi by omega]
def rowsP (cs : List Nat) (w l : Nat) : Pl := (List.range l).map fun k => (⟨((cs.drop (k * w)).take w).toArray⟩ : Str)
theorem rowsP_chr {cs : List Nat} {w l c : Nat} (hw : 0 < w) (hl : cs.length = l * w) (hc : c < l * w) : chr (rowsP cs w l) w c = cs.getD c 0 := by
  have hq : c / w < l := Nat.div_lt_of_lt_mul (by rw [Nat.mul_comm]; exact hc)
  have hr := Nat.mod_lt c hw
  unfold chr
  have e : (rowsP cs w l).getD (c / w) ⟨#[]⟩ = ⟨((cs.drop (c / w * w)).take w).toArray⟩ := by
    unfold rowsP
    rw [List.getD_eq_getElem?_getD, List.getElem?_map, List.getElem?_range hq]
    rfl
  rw [e]
  show ((cs.drop (c / w * w)).take w).getD (c % w) 0 = _
  rw [List.getD_eq_getElem?_getD, List.getD_eq_getElem?_getD, List.getElem?_take_of_lt hr, List.getElem?_drop]
  rw [show c / w * w + c % w = c by rw [Nat.mul_comm]; exact Nat.div_add_mod c w]
theorem mul_le64 {l w : Nat} (hl8 : l ≤ 8) (hw8 : w ≤ 8) : l * w ≤ 64 := Nat.le_trans (Nat.mul_le_mul hl8 hw8) (by decide)
theorem v_mul {S : Sto} {i j : Nat} (hj : j ≤ 1000) : binD .mul (.int (i : Int)) (.int (j : Int)) S = .ok (.int ((i * j : Nat) : Int)) S := by
  rw [v_mulR (show (j : Int).natAbs < 2 ^ 64 by omega), Int.natCast_mul]
theorem lfloor_sp {f pi : Nat} {l k : Nat} (h : P[f]? = some ⟨4, 8, tLFloor dw pi⟩) (hp : P[pi]? = some ⟨2, 2, tPick dw⟩) (hd : P[dw]? = some ⟨2, 5, tDraw⟩) (hl0 : 0 < l) (hl8 : l ≤ 8) (hw0 : 0 < w) (hw8 : w ≤ 8) (hk : k ≤ 6) (ha : 0 ≤ a) (hb : 0 ≤ b) :
    W (callN P g (n + 3) f [.ref 1, .int (l : Int), .int (w : Int), .int (k : Int)] (DS cells a b s ++ L)) (DQ cells L (FlrP w l)) := by
  refine W_call h rfl ?_
  simp only [tLFloor, ds_len]
  walk_at "ev"
  obtain ⟨y1, hy1, e1⟩ := v_slStr (S := DS cells a b s ++ L) (z := "123456") (k := k) (by show k ≤ ("123456" : Str).cps.size; rw [← Array.length_toList, gates]; exact hk)
  obtain ⟨y2, hy2, e2⟩ := v_slStr (S := DS cells a b s ++ L) (z := "ABCDEF") (k := k) (by show k ≤ ("ABCDEF" : Str).cps.size; rw [← Array.length_toList, lids]; exact hk)
  rw [e1]
  walk_at "ev"
  rw [e2]
  walk_at "ev"
  rw [v_scat (by omega)]
  walk_at "ev"
  have hnl := str_cat y1 y2
  generalize y1 ++ y2 = nm at hnl
  rw [Nx_nx]
  walk_at "ev"
  have l1 : ("......,+ah#" : Str).length = 11 := by decide +kernel
  have l2 : (".,+abcdefgh#*!" : Str).length = 14 := by decide +kernel
  have l3 : ("..!!*#" : Str).length = 6 := by decide +kernel
  rw [v_scat (by rw [l1]; omega)]
  walk_at "ev"
  rw [v_scat (by rw [l2]; omega)]
  walk_at "ev"
  rw [v_scat (by rw [l3]; omega)]
  walk_at "ev"
  rw [v_scat (by rw [str_cat, l3]; omega)]
  walk_at "ev"
  have q1 := str_cat "......,+ah#" nm
  have q2 := str_cat ".,+abcdefgh#*!" nm
  have q3 := str_cat ("..!!*#" ++ nm) nm
  have q4 := str_cat "..!!*#" nm
  rw [l1] at q1
  rw [l2] at q2
  rw [l3] at q4
  rw [q4] at q3
  generalize ("......,+ah#" : Str) ++ nm = z1 at q1 ⊢
  generalize (".,+abcdefgh#*!" : Str) ++ nm = z2 at q2 ⊢
  generalize (("..!!*#" : Str) ++ nm) ++ nm = z3 at q3 ⊢
  rw [asc, ds_len]
  refine W_drw (n := n + 1) (g := g) hd ha hb (by decide) (by decide) fun y a1 b1 s1 hy0 hy1 ha1 hb1 => ?_
  obtain ⟨z, hz0, hz1, hix⟩ : ∃ z : Str, 0 < z.length ∧ z.length < 1000 ∧ ixD (.ref (2 + L.length)) (.int y) (DS cells a1 b1 s1 ++ (L ++ [O.lst [.str z1, .str z2, .str z3]])) = some (.str z) := by
    have hix : ∀ {j : Nat} {d : D}, y = (j : Int) → ([.str z1, .str z2, .str z3] : List D)[j]? = some d → ixD (.ref (2 + L.length)) (.int y) (DS cells a1 b1 s1 ++ (L ++ [O.lst [.str z1, .str z2, .str z3]])) = some d := fun h1 h2 => v_ixL (ds_L (getN L _ [])) h1 h2
    have hy : y = 0 ∨ y = 1 ∨ y = 2 := by omega
    rcases hy with h | h | h
    · exact ⟨z1, by omega, by omega, hix (j := 0) h rfl⟩
    · exact ⟨z2, by omega, by omega, hix (j := 1) h rfl⟩
    · exact ⟨z3, by omega, by omega, hix (j := 2) h rfl⟩
  rw [hix]
  walk_at "ev"
  rw [Nx_nx]
  walk_at "ev"
  have hlw := mul_le64 hl8 hw8
  have hlw0 : 0 < l * w := Nat.mul_pos hl0 hw0
  rw [v_mul (by omega)]
  walk_at "ev"
  rw [v_rangeB (by omega)]
  walk_at "ev"
  generalize hL1 : L ++ [O.lst [.str z1, .str z2, .str z3]] = L1
  obtain ⟨T0, hT0⟩ : ∃ T0, L1 = L ++ T0 := ⟨_, hL1.symm⟩
  refine W_compG (fun d2 acc S' => ∃ cs a b s, acc = (cs.map oneS).map .str ∧ cs.length = d2.length ∧ 0 ≤ a ∧ 0 ≤ b ∧ S' = DS cells a b s ++ L1) ⟨[], a1, b1, s1, rfl, rfl, ha1, hb1, rfl⟩ (fun _ _ _ _ => good_nil _)
    (fun d2 y rest2 acc S' e2 ⟨cs, a, b, s, h5, h6, ha, hb, h7⟩ => ?_) fun acc S' ⟨cs, a, b, s, h5, h6, ha, hb, h7⟩ => ?_
  · subst h5 h7
    walk_at "ev"
    refine W_dq (pickS_sp (n := n) (g := g) (cells := cells) hp hd ha hb hz0 hz1) fun v a2 b2 s2 ⟨c, hc⟩ ha2 hb2 => ?_
    subst hc
    exact ⟨cs ++ [c], a2, b2, s2, by simp [oneS], by simp [h6], ha2, hb2, rfl⟩
  · subst h5 h7
    rw [rI_len] at h6
    walk_at "ev"
    rw [Nx_nx]
    walk_at "ev"
    rw [asc, ds_len]
    refine W_dq (pickS2_sp (n := n) (g := g) (cells := cells) (z := ".,+abcdefgh") hp hd ha hb (by decide +kernel) (by decide +kernel)) fun v a3 b3 s3 ⟨c, hc, hv⟩ ha3 hb3 => ?_
    subst hv
    walk_at "ev"
    rw [v_mul (by omega)]
    walk_at "ev"
    refine W_drw (n := n + 1) (g := g) hd ha3 hb3 (by omega) (by omega) fun j a4 b4 s4 hj0 hj1 ha4 hb4 => ?_
    obtain ⟨j, rfl⟩ : ∃ i : Nat, j = i := ⟨j.toNat, by omega⟩
    have hj : j < cs.length := by omega
    have hset : setIxD (2 + L.length) (.ref (2 + L1.length)) (.int (j : Int)) (.str ⟨#[c]⟩) (DS cells a4 b4 s4 ++ (L1 ++ [O.lst ((cs.map oneS).map .str)])) = .ok () (DS cells a4 b4 s4 ++ (L1 ++ [O.lst (((cs.set j c).map oneS).map .str)])) := by
      have e := ds_L (cells := cells) (a := a4) (b := b4) (s := s4) (getN L1 (O.lst ((cs.map oneS).map .str)) [])
      simp only [setIxD, e]
      have ei : ixN ((cs.map oneS).map D.str).length (j : Int) = some j := by
        unfold ixN
        rw [if_pos (by omega), if_pos (by rw [List.length_map, List.length_map]; omega), Int.toNat_natCast]
      rw [ei]
      dsimp only
      rw [if_pos (show okPut (2 + L.length) (2 + L1.length) (.str ⟨#[c]⟩) = true from rfl), ds_set, setN]
      rw [List.map_set, List.map_set]
      rfl
    rw [hset]
    walk_at "ev"
    rw [Nx_nx]
    walk_at "ev"
    have hcl : (cs.set j c).length = l * w := by rw [List.length_set, h6]
    have hcj : (cs.set j c).getD j 0 = c := by
      rw [List.getD_eq_getElem?_getD, List.getElem?_set_self hj]; rfl
    generalize cs.set j c = cs at hcl hcj
    rw [rangeP (by omega)]
    walk_at "ev"
    refine W_compG (fun d2 acc S' => ∃ T, acc = (d2.map fun k => (⟨((cs.drop (k * w)).take w).toArray⟩ : Str)).map .str ∧ S' = DS cells a4 b4 s4 ++ (L1 ++ O.lst ((cs.map oneS).map .str) :: T)) ⟨[], rfl, rfl⟩ (fun _ _ _ _ => good_nil _)
      (fun d2 k rest2 acc S' e2 ⟨T, h1, h2⟩ => ?_) fun acc S' ⟨T, h1, h2⟩ => ?_
    · subst h1 h2
      have hkl := (range_spl e2).1
      walk_at "ev"
      rw [v_mul (by omega)]
      walk_at "ev"
      rw [show ((k : Int) + 1) = ((k + 1 : Nat) : Int) from rfl, v_mul (by omega)]
      walk_at "ev"
      have hkw : (k + 1) * w ≤ cs.length := by rw [hcl]; exact Nat.mul_le_mul_right _ hkl
      have e5 := ds_L (cells := cells) (a := a4) (b := b4) (s := s4) (getN L1 (O.lst ((cs.map oneS).map .str)) T)
      have hsl : sliceD (.ref (2 + L1.length)) (some ((k * w : Nat) : Int)) (some (((k + 1) * w : Nat) : Int)) (DS cells a4 b4 s4 ++ (L1 ++ O.lst ((cs.map oneS).map .str) :: T)) = .ok (.ref (DS cells a4 b4 s4 ++ (L1 ++ O.lst ((cs.map oneS).map .str) :: T)).length) (DS cells a4 b4 s4 ++ (L1 ++ O.lst ((cs.map oneS).map .str) :: T) ++ [O.lst ((((cs.drop (k * w)).take w).map oneS).map .str)]) := by
        show (lft (lstItems (.ref (2 + L1.length)) _) _).bind _ = _
        rw [show lstItems (.ref (2 + L1.length)) (DS cells a4 b4 s4 ++ (L1 ++ O.lst ((cs.map oneS).map .str) :: T)) = some ((cs.map oneS).map .str) by simp only [lstItems, e5], lft_some, R.bind_ok]
        rw [cutL (Nat.mul_le_mul_right _ (Nat.le_succ k)) (by rw [List.length_map, List.length_map]; exact hkw)]
        rw [show (k + 1) * w - k * w = w by rw [Nat.succ_mul]; omega]
        rw [List.map_take, List.map_take, List.map_drop, List.map_drop]
        rfl
      rw [hsl]
      walk_at "ev"
      rw [v_join (getN _ _ []) (by rw [List.length_take]; omega)]
      walk_at "ev"
      exact ⟨T ++ [O.lst ((((cs.drop (k * w)).take w).map oneS).map .str)], by simp, by simp⟩
    · subst h1 h2
      walk_at "ev"
      rw [asc, ds_len, sr_ref (ds_L (getN _ _ []))]
      walk_at "ev"
      rw [hT0]
      rw [show ((List.range l).map fun k => (⟨((cs.drop (k * w)).take w).toArray⟩ : Str)) = rowsP cs w l from rfl]
      simp only [List.append_assoc]
      have hlen : (rowsP cs w l).length = l := by unfold rowsP; rw [List.length_map, List.length_range]
      refine fin_ds (pur_pl _) ha4 hb4 ⟨rowsP cs w l, rfl, ⟨by omega, by omega, hw0, hw8, fun x hx => ?_⟩, hlen, j, by rw [hlen, Nat.mul_comm]; omega, ?_⟩
      · unfold rowsP at hx
        obtain ⟨k, hk, rfl⟩ := List.mem_map.mp hx
        have hkl := List.mem_range.mp hk
        show ((cs.drop (k * w)).take w).length = w
        have : (k + 1) * w ≤ cs.length := by rw [hcl]; exact Nat.mul_le_mul_right _ hkl
        rw [Nat.succ_mul] at this
        rw [List.length_take, List.length_drop]
        omega
      · rw [rowsP_chr hw0 hcl (by omega), hcj]
        exact frC_mem hc
end
end PV

namespace PV
namespace Law
open PySem PySem.Spec PyProof.Rows L2
abbrev pr : Program := PySem.Challenge.pw_doubtborne_k05_cells_of_plans
def tp (i : Nat) : Stmt := pr.main.body.getD i (.Pass ⟨0, 0, 0, 0⟩)
def cs : CS := ⟨["width_of", "char_at", "gate_door", "lid_door", "doors_of", "cell_kind", "mark_of", "next_cell", "_law_begin", "_law_draw", "_law_pick", "_law_is_int", "_law_floor_signs", "_law_any_plan", "_law_due_doors", "_law_due_kind", "_law_two_settings", "_law_right_cell", "law"], ["MARKS", "GATES", "LIDS", "OBSTACLES", "DOWN", "RIGHT"]⟩
/-- 0 width_of(plan): 0 plan -/
def t0 : T := (.seq (.ret (.bi .len (.cons (.ix (.var 0) (.num 0)) .nil))) .skip)
/-- 1 char_at(plan, cell): 0 plan 1 cell 2 width -/
def t1 : T := (.seq (.set 2 (.call 0 (.cons (.var 0) .nil))) (.seq (.ret (.ix (.ix (.var 0) (.bin .fdiv (.var 1) (.var 2))) (.bin .mod (.var 1) (.var 2)))) .skip))
/-- 2 gate_door(char): 0 char -/
def t2 : T := (.seq (.ret (.bin .add (.bi .find (.cons (.glob 1) (.cons (.var 0) .nil))) (.num 1))) .skip)
/-- 3 lid_door(char): 0 char -/
def t3 : T := (.seq (.ret (.bin .add (.bi .find (.cons (.glob 2) (.cons (.var 0) .nil))) (.num 1))) .skip)
/-- 4 doors_of(plan): 0 plan 1 most 2 line 3 char -/
def t4 : T := (.seq (.set 1 (.num 0)) (.seq (.for_ [2] (.var 0) (.seq (.for_ [3] (.var 2) (.seq (.set 1 (.bi .max (.cons (.var 1) (.cons (.call 2 (.cons (.var 3) .nil)) (.cons (.call 3 (.cons (.var 3) .nil)) .nil))))) .skip)) .skip)) (.seq (.ret (.var 1)) .skip)))
/-- 5 cell_kind(plan, setting, cell): 0 plan 1 setting 2 cell 3 char 4 gate 5 lid -/
def t5 : T := (.seq (.set 3 (.call 1 (.cons (.var 0) (.cons (.var 2) .nil)))) (.seq (.ife (.cmp .isin (.var 3) (.glob 3)) (.seq (.ret (.ix (.glob 3) (.var 3))) .skip) .skip) (.seq (.set 4 (.call 2 (.cons (.var 3) .nil))) (.seq (.ife (.and (.cmp .gt (.var 4) (.num 0)) (.cmp .eq (.ix (.var 1) (.bin .sub (.var 4) (.num 1))) (.num 0))) (.seq (.ret (.cs "wall")) .skip) .skip) (.seq (.set 5 (.call 3 (.cons (.var 3) .nil))) (.seq (.ife (.and (.cmp .gt (.var 5) (.num 0)) (.cmp .eq (.ix (.var 1) (.bin .sub (.var 5) (.num 1))) (.num 1))) (.seq (.ret (.cs "hole")) .skip) .skip) (.seq (.ret (.cs "free")) .skip)))))))
/-- 6 mark_of(plan, cell): 0 plan 1 cell -/
def t6 : T := (.seq (.ret (.bin .add (.bi .find (.cons (.glob 0) (.cons (.call 1 (.cons (.var 0) (.cons (.var 1) .nil))) .nil))) (.num 1))) .skip)
/-- 7 next_cell(plan, cell, direction): 0 plan 1 cell 2 direction 3 width 4 line 5 column -/
def t7 : T := (.seq (.set 3 (.call 0 (.cons (.var 0) .nil))) (.seq (.set 4 (.bin .add (.bin .fdiv (.var 1) (.var 3)) (.ix (.glob 4) (.var 2)))) (.seq (.set 5 (.bin .add (.bin .mod (.var 1) (.var 3)) (.ix (.glob 5) (.var 2)))) (.seq (.ife (.and (.chain .le .lt (.num 0) (.var 4) (.bi .len (.cons (.var 0) .nil))) (.chain .le .lt (.num 0) (.var 5) (.var 3))) (.seq (.ret (.bin .add (.bin .mul (.var 4) (.var 3)) (.var 5))) .skip) .skip) (.seq (.ret .cn) .skip)))))
/-- 8 _law_begin(script): 0 script 1 cell -/
def t8 : T := (.seq (.ret (.lst (.cons (.comp [1] (.var 0) .nil (.bi .int (.cons (.var 1) .nil))) (.cons (.num 0) (.cons (.num 0) (.cons (.num 7) .nil)))))) .skip)
/-- 9 _law_draw(d, many): 0 d 1 many 2 found 3 size 4 cell -/
def t9 : T := (.seq (.ife (.cmp .gt (.ix (.var 0) (.num 2)) (.num 0)) (.seq (.set 2 (.ix (.var 0) (.num 2))) (.seq (.setIx (.var 0) (.num 2) (.bin .fdiv (.var 2) (.var 1))) (.seq (.ret (.bin .mod (.bi .int (.cons (.var 2) .nil)) (.var 1))) .skip))) .skip) (.seq (.set 3 (.num 0)) (.seq (.ife (.cmp .lt (.ix (.var 0) (.num 1)) (.bi .len (.cons (.ix (.var 0) (.num 0)) .nil))) (.seq (.set 4 (.ix (.ix (.var 0) (.num 0)) (.ix (.var 0) (.num 1)))) (.seq (.set 3 (.bin .add (.bin .mul (.num 2) (.bi .abs (.cons (.var 4) .nil))) (.bi .int (.cons (.cmp .lt (.var 4) (.num 0)) .nil)))) .skip)) .skip) (.seq (.augIx (.var 0) (.num 1) .add (.num 1)) (.seq (.ife (.cmp .ge (.var 3) (.bin .mul (.num 2) (.bin .pow (.num 10) (.num 18)))) (.seq (.set 2 (.bin .mod (.bi .int (.cons (.bin .fdiv (.var 3) (.num 2)) .nil)) (.bin .shl (.num 1) (.num 6000)))) (.seq (.setIx (.var 0) (.num 2) (.bin .fdiv (.var 2) (.var 1))) (.seq (.ret (.bin .mod (.bi .int (.cons (.var 2) .nil)) (.var 1))) .skip))) .skip) (.seq (.setIx (.var 0) (.num 3) (.bin .mod (.bi .int (.cons (.bin .add (.bin .add (.bin .add (.bin .mul (.ix (.var 0) (.num 3)) (.num 48271)) (.bin .mul (.bin .mod (.bi .int (.cons (.var 3) .nil)) (.num 2147483629)) (.num 16807))) (.bin .mul (.ix (.var 0) (.num 1)) (.num 69621))) (.num 11)) .nil)) (.num 2147483647))) (.seq (.ret (.bin .mod (.bi .int (.cons (.bin .fdiv (.ix (.var 0) (.num 3)) (.num 16)) .nil)) (.var 1))) .skip)))))))
/-- 10 _law_pick(d, row): 0 d 1 row -/
def t10 : T := (.seq (.ret (.ix (.var 1) (.call 9 (.cons (.var 0) (.cons (.bi .len (.cons (.var 1) .nil)) .nil))))) .skip)
/-- 11 _law_is_int(thing): 0 thing -/
def t11 : T := (.seq (.ret (.and (.isi (.var 0) .int) (.not (.isi (.var 0) .bool)))) .skip)
/-- 12 _law_floor_signs():  -/
def t12 : T := (.seq (.ret (.cs ".,+abcdefgh#*!123456ABCDEF")) .skip)
/-- 13 _law_any_plan(d): 0 d 1 high 2 wide 3 stock 4 k 5 line -/
def t13 : T := (.seq (.set 1 (.call 10 (.cons (.var 0) (.cons (.lst (.cons (.num 1) (.cons (.num 2) (.cons (.num 3) (.cons (.num 4) (.cons (.num 5) (.cons (.num 6) (.cons (.num 7) (.cons (.num 8) (.cons (.num 8) (.cons (.num 1) .nil))))))))))) .nil)))) (.seq (.set 2 (.call 10 (.cons (.var 0) (.cons (.lst (.cons (.num 1) (.cons (.num 2) (.cons (.num 3) (.cons (.num 4) (.cons (.num 5) (.cons (.num 6) (.cons (.num 7) (.cons (.num 8) (.cons (.num 8) (.cons (.num 1) .nil))))))))))) .nil)))) (.seq (.set 3 (.listOf (.call 12 .nil))) (.seq (.ife (.cmp .eq (.call 9 (.cons (.var 0) (.cons (.num 3) .nil))) (.num 1)) (.seq (.set 3 (.lst (.cons (.call 10 (.cons (.var 0) (.cons (.var 3) .nil))) (.cons (.call 10 (.cons (.var 0) (.cons (.var 3) .nil))) .nil)))) .skip) .skip) (.seq (.ret (.tupOf (.comp [5] (.range1 (.var 1)) .nil (.bi .join (.cons (.cs "") (.cons (.comp [4] (.range1 (.var 2)) .nil (.call 10 (.cons (.var 0) (.cons (.var 3) .nil)))) .nil)))))) .skip)))))
/-- 14 _law_due_doors(plan): 0 plan 1 most 2 door 3 line -/
def t14 : T := (.seq (.set 1 (.num 0)) (.seq (.for_ [2] (.range2 (.num 1) (.num 7)) (.seq (.for_ [3] (.var 0) (.seq (.ife (.or (.cmp .isin (.ix (.cs "0123456") (.var 2)) (.var 3)) (.cmp .isin (.ix (.cs "0ABCDEF") (.var 2)) (.var 3))) (.seq (.set 1 (.var 2)) .skip) .skip) .skip)) .skip)) (.seq (.ret (.var 1)) .skip)))
/-- 15 _law_due_kind(char, setting): 0 char 1 setting 2 fixed 3 door -/
def t15 : T := (.seq (.set 2 (.disp [("#", "wall"), ("*", "glass"), ("!", "hole")])) (.seq (.ife (.cmp .isin (.var 0) (.var 2)) (.seq (.ret (.ix (.var 2) (.var 0))) .skip) .skip) (.seq (.for_ [3] (.range1 (.bi .len (.cons (.var 1) .nil))) (.seq (.ife (.and (.cmp .eq (.var 0) (.ix (.cs "123456") (.var 3))) (.cmp .eq (.ix (.var 1) (.var 3)) (.num 0))) (.seq (.ret (.cs "wall")) .skip) .skip) (.seq (.ife (.and (.cmp .eq (.var 0) (.ix (.cs "ABCDEF") (.var 3))) (.cmp .eq (.ix (.var 1) (.var 3)) (.num 1))) (.seq (.ret (.cs "hole")) .skip) .skip) .skip))) (.seq (.ret (.cs "free")) .skip))))
/-- 16 _law_two_settings(d, doors): 0 d 1 doors 2 one 3 k 4 turned -/
def t16 : T := (.seq (.set 2 (.tupOf (.comp [3] (.range1 (.var 1)) .nil (.call 9 (.cons (.var 0) (.cons (.num 2) .nil)))))) (.seq (.ife (.cmp .eq (.var 1) (.num 0)) (.seq (.ret (.lst (.cons (.var 2) (.cons (.var 2) .nil)))) .skip) .skip) (.seq (.set 4 (.call 9 (.cons (.var 0) (.cons (.var 1) .nil)))) (.seq (.ret (.lst (.cons (.var 2) (.cons (.bin .add (.bin .add (.slice (.var 2) .nil (.cons (.var 4) .nil)) (.tup (.cons (.bin .sub (.num 1) (.ix (.var 2) (.var 4))) .nil))) (.slice (.var 2) (.cons (.bin .add (.var 4) (.num 1)) .nil) .nil)) .nil)))) .skip))))
/-- 17 _law_right_cell(plan, both, line, column): 0 plan 1 both 2 line 3 column 4 wide 5 cell 6 char 7 mark 8 setting 9 steps 10 direction 11 down 12 right 13 due 14 told -/
def t17 : T := (.seq (.set 4 (.bi .len (.cons (.ix (.var 0) (.num 0)) .nil))) (.seq (.set 5 (.bin .add (.bin .mul (.var 2) (.var 4)) (.var 3))) (.seq (.set 6 (.ix (.ix (.var 0) (.var 2)) (.var 3))) (.seq (.set 7 (.call 6 (.cons (.var 0) (.cons (.var 5) .nil)))) (.seq (.ife (.or (.not (.call 11 (.cons (.var 7) .nil))) (.cmp .ne (.var 7) (.bi .max (.cons (.num 0) (.cons (.bi .find (.cons (.cs "0abcdefgh") (.cons (.var 6) .nil))) .nil))))) (.seq (.ret (.cb false)) .skip) .skip) (.seq (.for_ [8] (.var 1) (.seq (.ife (.cmp .ne (.call 5 (.cons (.var 0) (.cons (.var 8) (.cons (.var 5) .nil)))) (.call 15 (.cons (.var 6) (.cons (.var 8) .nil)))) (.seq (.ret (.cb false)) .skip) .skip) .skip)) (.seq (.set 9 (.lst (.cons (.tup (.cons (.neg (.num 1)) (.cons (.num 0) .nil))) (.cons (.tup (.cons (.num 0) (.cons (.num 1) .nil))) (.cons (.tup (.cons (.num 1) (.cons (.num 0) .nil))) (.cons (.tup (.cons (.num 0) (.cons (.neg (.num 1)) .nil))) .nil)))))) (.seq (.for_ [10] (.range1 (.num 4)) (.seq (.set 11 (.bin .add (.var 2) (.ix (.ix (.var 9) (.var 10)) (.num 0)))) (.seq (.set 12 (.bin .add (.var 3) (.ix (.ix (.var 9) (.var 10)) (.num 1)))) (.seq (.set 13 .cn) (.seq (.ife (.and (.chain .le .lt (.num 0) (.var 11) (.bi .len (.cons (.var 0) .nil))) (.chain .le .lt (.num 0) (.var 12) (.var 4))) (.seq (.set 13 (.bin .add (.bin .mul (.var 11) (.var 4)) (.var 12))) .skip) .skip) (.seq (.set 14 (.call 7 (.cons (.var 0) (.cons (.var 5) (.cons (.var 10) .nil))))) (.seq (.ife (.or (.cmp .ne (.var 14) (.var 13)) (.isi (.var 14) .bool)) (.seq (.ret (.cb false)) .skip) .skip) .skip))))))) (.seq (.ret (.cb true)) .skip)))))))))
/-- 18 law(script): 0 script 1 d 2 floors 3 pairs 4 plan 5 doors 6 told 7 line 8 column 9 k -/
def t18 : T := (.seq (.set 1 (.call 8 (.cons (.var 0) .nil))) (.seq (.set 2 (.lst (.cons (.call 13 (.cons (.var 1) .nil)) (.cons (.call 13 (.cons (.var 1) .nil)) .nil)))) (.seq (.set 3 (.lst .nil)) (.seq (.for_ [4] (.var 2) (.seq (.set 5 (.call 14 (.cons (.var 4) .nil))) (.seq (.set 6 (.call 4 (.cons (.var 4) .nil))) (.seq (.ife (.or (.not (.call 11 (.cons (.var 6) .nil))) (.cmp .ne (.var 6) (.var 5))) (.seq (.ret (.cb false)) .skip) .skip) (.seq (.expr (.meth .append (.var 3) (.cons (.call 16 (.cons (.var 1) (.cons (.var 5) .nil))) .nil))) .skip))))) (.seq (.for_ [7] (.range1 (.num 8)) (.seq (.for_ [8] (.range1 (.num 8)) (.seq (.for_ [9] (.range1 (.num 2)) (.seq (.ife (.and (.cmp .lt (.var 7) (.bi .len (.cons (.ix (.var 2) (.var 9)) .nil))) (.cmp .lt (.var 8) (.bi .len (.cons (.ix (.ix (.var 2) (.var 9)) (.num 0)) .nil)))) (.seq (.ife (.not (.call 17 (.cons (.ix (.var 2) (.var 9)) (.cons (.ix (.var 3) (.var 9)) (.cons (.var 7) (.cons (.var 8) .nil)))))) (.seq (.ret (.cb false)) .skip) .skip) .skip) .skip) .skip)) .skip)) .skip)) (.seq (.ret (.bi .all (.cons (.comp [4] (.var 2) .nil (.cmp .eq (.call 4 (.cons (.var 4) .nil)) (.call 14 (.cons (.var 4) .nil)))) .nil))) .skip))))))
def P : List Fn := [⟨1, 1, t0⟩, ⟨2, 3, t1⟩, ⟨1, 1, t2⟩, ⟨1, 1, t3⟩, ⟨1, 4, t4⟩, ⟨3, 6, t5⟩, ⟨2, 2, t6⟩, ⟨3, 6, t7⟩, ⟨1, 2, t8⟩, ⟨2, 5, t9⟩, ⟨2, 2, t10⟩, ⟨1, 1, t11⟩, ⟨0, 0, t12⟩, ⟨1, 6, t13⟩, ⟨1, 4, t14⟩, ⟨2, 4, t15⟩, ⟨2, 5, t16⟩, ⟨4, 15, t17⟩, ⟨1, 10, t18⟩]
def gl : Nat → Option D := fun k => ([(.str "abcdefgh"), (.str "123456"), (.str "ABCDEF"), (.cdc [("#", "wall"), ("*", "glass"), ("!", "hole")]), (.ctu [(.int (-1)), (.int (0)), (.int (1)), (.int (0))]), (.ctu [(.int (0)), (.int (1)), (.int (0)), (.int (-1))])] : List D)[k]?
end Law
end PV
namespace PV
namespace Law
open PySem
local macro_rules
  | `(tactic| walk_at "ev") => `(tactic| try simp -implicitDefEqProofs only [X_seq, X_skip, X_set, X_setT, X_setIx, X_augIx, X_ife, X_ret, X_expr, X_for, X_brk, X_cont, sem, Mean.of, Mean.ofTe, Mean.ofIt, W_bind, W_ok, R.bind_ok, lft_some, List.map_cons, List.map_nil, List.replicate, List.cons_append, List.nil_append, Nat.reduceSub, List.getElem?_cons_zero, List.getElem?_cons_succ, List.set_cons_zero, List.set_cons_succ, List.length_cons, List.length_nil, v_lt, v_gt, v_le, v_ge, v_eq, v_ne, v_tb, v_add, v_sub, v_int, v_intb, v_abs, v_aadd, v_asub, okPut_int, Nx_rt, Nx_bk, Nx_ct, sr_tup', wipe1, asg1, W_alloc, Br_t, Br_f, Bool.not_true, Bool.not_false, if_true, if_false, reduceIte, sr_tI, v_lenI, Bool.false_eq_true, v_part0, v_part1, ss_ref, ss_tup, ss_fls, ss_tI, wipe2, chain_if, te_and, te_or, ss_str, v_addB, v_subB, Option.isSome_some, Option.isSome_none, Option.map_some])
def tK18_3 : T := (.seq (.for_ [4] (.var 2) (.seq (.set 5 (.call 14 (.cons (.var 4) .nil))) (.seq (.set 6 (.call 4 (.cons (.var 4) .nil))) (.seq (.ife (.or (.not (.call 11 (.cons (.var 6) .nil))) (.cmp .ne (.var 6) (.var 5))) (.seq (.ret (.cb false)) .skip) .skip) (.seq (.expr (.meth .append (.var 3) (.cons (.call 16 (.cons (.var 1) (.cons (.var 5) .nil))) .nil))) .skip))))) (.seq (.for_ [7] (.range1 (.num 8)) (.seq (.for_ [8] (.range1 (.num 8)) (.seq (.for_ [9] (.range1 (.num 2)) (.seq (.ife (.and (.cmp .lt (.var 7) (.bi .len (.cons (.ix (.var 2) (.var 9)) .nil))) (.cmp .lt (.var 8) (.bi .len (.cons (.ix (.ix (.var 2) (.var 9)) (.num 0)) .nil)))) (.seq (.ife (.not (.call 17 (.cons (.ix (.var 2) (.var 9)) (.cons (.ix (.var 3) (.var 9)) (.cons (.var 7) (.cons (.var 8) .nil)))))) (.seq (.ret (.cb false)) .skip) .skip) .skip) .skip) .skip)) .skip)) .skip)) (.seq (.ret (.bi .all (.cons (.comp [4] (.var 2) .nil (.cmp .eq (.call 4 (.cons (.var 4) .nil)) (.call 14 (.cons (.var 4) .nil)))) .nil))) .skip)))
def tK18_4 : T := (.seq (.for_ [7] (.range1 (.num 8)) (.seq (.for_ [8] (.range1 (.num 8)) (.seq (.for_ [9] (.range1 (.num 2)) (.seq (.ife (.and (.cmp .lt (.var 7) (.bi .len (.cons (.ix (.var 2) (.var 9)) .nil))) (.cmp .lt (.var 8) (.bi .len (.cons (.ix (.ix (.var 2) (.var 9)) (.num 0)) .nil)))) (.seq (.ife (.not (.call 17 (.cons (.ix (.var 2) (.var 9)) (.cons (.ix (.var 3) (.var 9)) (.cons (.var 7) (.cons (.var 8) .nil)))))) (.seq (.ret (.cb false)) .skip) .skip) .skip) .skip) .skip)) .skip)) .skip)) (.seq (.ret (.bi .all (.cons (.comp [4] (.var 2) .nil (.cmp .eq (.call 4 (.cons (.var 4) .nil)) (.call 14 (.cons (.var 4) .nil)))) .nil))) .skip))
def tK18_5 : T := (.seq (.ret (.bi .all (.cons (.comp [4] (.var 2) .nil (.cmp .eq (.call 4 (.cons (.var 4) .nil)) (.call 14 (.cons (.var 4) .nil)))) .nil))) .skip)
def tK13_3 : T := (.seq (.ife (.cmp .eq (.call 9 (.cons (.var 0) (.cons (.num 3) .nil))) (.num 1)) (.seq (.set 3 (.lst (.cons (.call 10 (.cons (.var 0) (.cons (.var 3) .nil))) (.cons (.call 10 (.cons (.var 0) (.cons (.var 3) .nil))) .nil)))) .skip) .skip) (.seq (.ret (.tupOf (.comp [5] (.range1 (.var 1)) .nil (.bi .join (.cons (.cs "") (.cons (.comp [4] (.range1 (.var 2)) .nil (.call 10 (.cons (.var 0) (.cons (.var 3) .nil)))) .nil)))))) .skip))
def tK13_4 : T := (.seq (.ret (.tupOf (.comp [5] (.range1 (.var 1)) .nil (.bi .join (.cons (.cs "") (.cons (.comp [4] (.range1 (.var 2)) .nil (.call 10 (.cons (.var 0) (.cons (.var 3) .nil)))) .nil)))))) .skip)
variable {n : Nat} {S : Sto}
theorem pP0 : P[0]? = some ⟨1, 1, tWid⟩ := rfl
theorem pP1 : P[1]? = some ⟨2, 3, tChar 0⟩ := rfl
theorem pP2 : P[2]? = some ⟨1, 1, tDoor 1⟩ := rfl
theorem pP3 : P[3]? = some ⟨1, 1, tDoor 2⟩ := rfl
theorem pP5 : P[5]? = some ⟨3, 6, tKind 1 2 3 3⟩ := rfl
theorem pP6 : P[6]? = some ⟨2, 2, tMark 0 1⟩ := rfl
theorem pP7 : P[7]? = some ⟨3, 6, tNextC 0 4 5⟩ := rfl
theorem pP8 : P[8]? = some ⟨1, 2, tBegin⟩ := rfl
theorem pP9 : P[9]? = some ⟨2, 5, tDraw⟩ := rfl
theorem pP10 : P[10]? = some ⟨2, 2, tPick 9⟩ := rfl
theorem pP11 : P[11]? = some ⟨1, 1, tIsInt⟩ := rfl
section
variable {w : Nat} {p : Pl}
/-! 4: the greatest door, by the program -/
theorem v_max3 {i j k : Int} : biD .max [.int i, .int j, .int k] S = .ok (.int (if j > i then (if k > j then k else j) else (if k > i then k else i))) S := rfl
theorem max_dr (m c : Nat) : (let j : Int := if 49 ≤ c ∧ c ≤ 54 then (c : Int) - 48 else 0; let k : Int := if 65 ≤ c ∧ c ≤ 70 then (c : Int) - 64 else 0; if j > (m : Int) then (if k > j then k else j) else (if k > (m : Int) then k else (m : Int))) = ((max m (dr c) : Nat) : Int) := by
  dsimp only
  unfold dr
  rw [Nat.max_def]
  by_cases h1 : 49 ≤ c ∧ c ≤ 54
  · have h2 : ¬ (65 ≤ c ∧ c ≤ 70) := by omega
    simp only [if_pos h1, if_neg h2]
    split <;> split <;> (try split) <;> omega
  · by_cases h2 : 65 ≤ c ∧ c ≤ 70
    · simp only [if_neg h1, if_pos h2]
      split <;> (try split) <;> (try split) <;> omega
    · simp only [if_neg h1, if_neg h2]
      split <;> (try split) <;> (try split) <;> omega
theorem sp4 : callN P gl (n + 2) 4 [plD p] S = .ok (.int (doorsP p : Nat)) S := by
  refine call_eq rfl rfl ?_
  simp only [t4]
  walk_at "ev"
  rw [Nx_nx]
  unfold plD
  walk_at "ev"
  refine W_forM (fun dn ρ S' => ∃ o2 o3, S' = S ∧ ρ = [some (.tup (p.map .str)), some (.int (dn.foldl lnD 0 : Nat)), o2, o3]) ⟨_, _, rfl, rfl⟩ (fun _ _ _ _ => good_nil _) (fun dn l rest ρ S' e ⟨o2, o3, h1, h2⟩ => ?_) fun ρ S' ⟨o2, o3, h1, h2⟩ => ?_
  · subst h1 h2
    rw [W_turn1]
    walk_at "ev"
    unfold signs
    generalize hm : dn.foldl lnD 0 = m0
    refine W_forM (fun d2 ρ S2 => ∃ o3, S2 = S' ∧ ρ = [some (.tup (p.map .str)), some (.int (d2.foldl (fun m c => max m (dr c)) m0 : Nat)), some (.str l), o3]) ⟨_, rfl, rfl⟩ (fun _ _ _ _ => good_nil _) (fun d2 c rest2 ρ S2 e2 ⟨o3, h1, h2⟩ => ?_) fun ρ S2 ⟨o3, h1, h2⟩ => ?_
    · subst h1 h2
      rw [W_turn1]
      walk_at "ev"
      rw [show ∀ S, callN P gl (n + 1) 2 [.str ⟨#[c]⟩] S = _ from fun S => gate_sp (n := n) pP2 rfl]
      walk_at "ev"
      rw [show ∀ S, callN P gl (n + 1) 3 [.str ⟨#[c]⟩] S = _ from fun S => lid_sp (n := n) pP3 rfl]
      walk_at "ev"
      generalize hm2 : d2.foldl (fun m c => max m (dr c)) m0 = m2
      rw [v_max3]
      walk_at "ev"
      rw [Nx_nx]
      walk_at "ev"
      have e3 : (d2 ++ [c]).foldl (fun m c => max m (dr c)) m0 = max m2 (dr c) := by rw [List.foldl_append, hm2]; rfl
      refine ⟨some (.str ⟨#[c]⟩), trivial, ?_⟩
      rw [e3, ← max_dr m2 c]
    · subst h1 h2
      rw [Nx_nx]
      walk_at "ev"
      refine ⟨some (.str l), o3, trivial, ?_⟩
      rw [List.foldl_append, hm]
      rfl
  · subst h1 h2
    rw [Nx_nx]
    walk_at "ev"
    exact fin_pur rfl ⟨rfl, take_same _⟩
/-! 14: by the law -/
def hasL (l : Str) (d : Nat) : Bool := decide (48 + d ∈ l.cps.toList) || decide (64 + d ∈ l.cps.toList)
theorem hasL_dr {l : Str} {d : Nat} (h1 : 1 ≤ d) (h6 : d ≤ 6) : hasL l d = true ↔ ∃ c ∈ l.cps.toList, dr c = d := by
  unfold hasL dr
  rw [Bool.or_eq_true, decide_eq_true_eq, decide_eq_true_eq]
  constructor
  · rintro (h | h)
    · exact ⟨_, h, by rw [if_pos (by omega)]; omega⟩
    · exact ⟨_, h, by rw [if_neg (by omega), if_pos (by omega)]; omega⟩
  · rintro ⟨c, hc, e⟩
    split at e
    · left
      rw [show 48 + d = c by omega]
      exact hc
    · split at e
      · right
        rw [show 64 + d = c by omega]
        exact hc
      · omega
theorem v_in1 {c : Nat} {z : Str} : cmpD .isin (.str ⟨#[c]⟩) (.str z) S = some (decide (c ∈ z.cps.toList)) := rfl
theorem sig1 : ("0123456" : Str).cps.toList = [48, 49, 50, 51, 52, 53, 54] := by decide +kernel
theorem sig2 : ("0ABCDEF" : Str).cps.toList = [48, 65, 66, 67, 68, 69, 70] := by decide +kernel
theorem at1 {d : Nat} (h1 : 1 ≤ d) (h6 : d ≤ 6) : ixD (.str "0123456") (.int (d : Int)) S = some (.str ⟨#[48 + d]⟩) := by
  refine v_ixS rfl ?_
  rw [sig1]
  match d, h1, h6 with
  | 1, _, _ => rfl
  | 2, _, _ => rfl
  | 3, _, _ => rfl
  | 4, _, _ => rfl
  | 5, _, _ => rfl
  | 6, _, _ => rfl
theorem at2 {d : Nat} (h1 : 1 ≤ d) (h6 : d ≤ 6) : ixD (.str "0ABCDEF") (.int (d : Int)) S = some (.str ⟨#[64 + d]⟩) := by
  refine v_ixS rfl ?_
  rw [sig2]
  match d, h1, h6 with
  | 1, _, _ => rfl
  | 2, _, _ => rfl
  | 3, _, _ => rfl
  | 4, _, _ => rfl
  | 5, _, _ => rfl
  | 6, _, _ => rfl
def six : List Nat := [1, 2, 3, 4, 5, 6]
theorem six_at {dn rest : List Nat} {d : Nat} (e : six = dn ++ d :: rest) : d = dn.length + 1 ∧ d ≤ 6 := by
  have hl : dn.length < 6 := by
    have := congrArg List.length e
    rw [List.length_append, List.length_cons] at this
    have h6 : six.length = 6 := rfl
    omega
  have h : six[dn.length]? = (dn ++ d :: rest)[dn.length]? := by rw [e]
  rw [List.getElem?_append_right (Nat.le_refl _), Nat.sub_self] at h
  have key : ∀ q : Nat, q < 6 → six[q]? = some (q + 1) := by decide
  rw [key _ hl] at h
  have := Option.some.inj h
  omega
theorem range17 : rangeSrc (.int 1) (.int 7) = some ⟨six.map fun (k : Nat) => D.int (k : Int), []⟩ := rfl
theorem sp14 : callN P gl (n + 1) 14 [plD p] S = .ok (.int (doorsP p : Nat)) S := by
  refine call_eq rfl rfl ?_
  simp only [t14]
  walk_at "ev"
  rw [Nx_nx]
  walk_at "ev"
  rw [range17]
  walk_at "ev"
  refine W_forM (fun (dn : List Nat) ρ S' => ∃ (m : Nat) (o2 o3 : Option D), S' = S ∧ ρ = [some (plD p), some (.int (m : Int)), o2, o3] ∧ (∀ d ∈ dn, (∃ l ∈ p, hasL l d = true) → d ≤ m) ∧ (m = 0 ∨ (1 ≤ m ∧ m ≤ 6 ∧ ∃ l ∈ p, hasL l m = true)) ∧ m ≤ dn.length) ⟨0, _, _, rfl, rfl, (fun _ h => by cases h), .inl rfl, Nat.le_refl _⟩ (fun _ _ _ _ => good_nil _) (fun dn d rest ρ S' e ⟨m, o2, o3, h1, h2, h3, h4, h5⟩ => ?_) fun ρ S' ⟨m, o2, o3, h1, h2, h3, h4, h5⟩ => ?_
  · subst h1 h2
    obtain ⟨hdl, hd6⟩ := six_at e
    rw [W_turn1]
    unfold plD
    walk_at "ev"
    refine W_forM (fun d2 ρ S2 => ∃ o3, S2 = S' ∧ ρ = [some (.tup (p.map .str)), some (.int (((if (d2.any fun l => hasL l d) = true then d else m) : Nat) : Int)), some (.int (d : Int)), o3]) ⟨_, rfl, rfl⟩ (fun _ _ _ _ => good_nil _) (fun d2 l rest2 ρ S2 e2 ⟨o3, h1, h2⟩ => ?_) fun ρ S2 ⟨o3, h1, h2⟩ => ?_
    · subst h1 h2
      rw [W_turn1]
      walk_at "ev"
      rw [at1 (by omega) hd6]
      walk_at "ev"
      rw [v_in1]
      walk_at "ev"
      have e3 : ((d2 ++ [l]).any fun l => hasL l d) = ((d2.any fun l => hasL l d) || hasL l d) := by rw [List.any_append]; simp
      rw [e3]
      cases h1 : decide (48 + d ∈ l.cps.toList) with
      | true =>
        have hh : hasL l d = true := by unfold hasL; rw [h1]; rfl
        rw [hh, Bool.or_true]
        walk_at "ev"
        rw [Nx_nx]
        walk_at "ev"
        rw [Nx_nx]
        walk_at "ev"
        exact ⟨_, trivial, rfl⟩
      | false =>
        walk_at "ev"
        rw [at2 (by omega) hd6]
        walk_at "ev"
        rw [v_in1]
        walk_at "ev"
        cases h2 : decide (64 + d ∈ l.cps.toList) with
        | true =>
          have hh : hasL l d = true := by unfold hasL; rw [h1, h2]; rfl
          rw [hh, Bool.or_true]
          walk_at "ev"
          rw [Nx_nx]
          walk_at "ev"
          rw [Nx_nx]
          walk_at "ev"
          exact ⟨_, trivial, rfl⟩
        | false =>
          have hh : hasL l d = false := by unfold hasL; rw [h1, h2]; rfl
          rw [hh, Bool.or_false]
          walk_at "ev"
          rw [Nx_nx]
          walk_at "ev"
          exact ⟨_, trivial, rfl⟩
    · subst h1 h2
      rw [Nx_nx]
      walk_at "ev"
      refine ⟨_, _, _, trivial, rfl, fun z hz hzl => ?_, ?_, ?_⟩
      · rcases List.mem_append.mp hz with hz | hz
        · have := h3 z hz hzl
          split <;> omega
        · rw [List.mem_singleton.mp hz] at hzl ⊢
          obtain ⟨l, hl, hh⟩ := hzl
          rw [if_pos (List.any_eq_true.mpr ⟨l, hl, hh⟩)]
          exact Nat.le_refl _
      · split
        · rename_i ha
          obtain ⟨l, hl, hh⟩ := List.any_eq_true.mp ha
          exact .inr ⟨by omega, hd6, l, hl, hh⟩
        · exact h4
      · rw [List.length_append, List.length_singleton]
        split <;> omega
  · subst h1 h2
    rw [Nx_nx]
    walk_at "ev"
    refine fin_pur rfl ⟨?_, take_same _⟩
    congr 2
    refine Nat.le_antisymm ?_ ?_
    · rcases h4 with h4 | ⟨g1, g2, l, hl, hh⟩
      · omega
      · obtain ⟨c, hc, hcd⟩ := (hasL_dr g1 g2).mp hh
        rw [← hcd]
        exact doors_ge l hl c hc
    · refine doors_le fun l hl c hc => ?_
      have h6 := dr6 c
      rcases Nat.eq_zero_or_pos (dr c) with h0 | h0
      · omega
      · exact h3 (dr c) (by
          have key : ∀ q : Nat, q < 7 → 1 ≤ q → q ∈ six := by decide
          exact key _ (by omega) h0) ⟨l, hl, (hasL_dr h0 h6).mpr ⟨c, hc, rfl⟩⟩
end
section
variable {w : Nat} {p : Pl}
/-! 15 -/
def fx : List (D × D) := [(.str "#", .str "wall"), (.str "*", .str "glass"), (.str "!", .str "hole")]
theorem lk_eqv {z : Str} {c k : Nat} (hz : z = ⟨#[k]⟩) : (D.str z).eqv (.str ⟨#[c]⟩) = decide (k = c) := by
  subst hz
  rw [D.eqv]
  exact one_eq k c
theorem fx_look (c : Nat) : lookD fx (.str ⟨#[c]⟩) = if c = 35 then some (.str "wall") else if c = 42 then some (.str "glass") else if c = 33 then some (.str "hole") else none := by
  unfold fx
  rw [lookD, lookD, lookD, lookD, lk_eqv (z := "#") (c := c) (k := 35) rfl, lk_eqv (z := "*") (c := c) (k := 42) rfl, lk_eqv (z := "!") (c := c) (k := 33) rfl]
  by_cases h1 : c = 35
  · rw [if_pos h1, if_pos (decide_eq_true h1.symm)]
  · rw [if_neg h1, if_neg (by simpa using fun h => h1 h.symm)]
    by_cases h2 : c = 42
    · rw [if_pos h2, if_pos (decide_eq_true h2.symm)]
    · rw [if_neg h2, if_neg (by simpa using fun h => h2 h.symm)]
      by_cases h3 : c = 33
      · rw [if_pos h3, if_pos (decide_eq_true h3.symm)]
      · rw [if_neg h3, if_neg (by simpa using fun h => h3 h.symm)]
theorem fx_ok (c : Nat) : dicOk fx (.str ⟨#[c]⟩) = true := rfl
theorem v_inF {a c : Nat} (h : S[a]? = some (.dic fx)) : cmpD .isin (.str ⟨#[c]⟩) (.ref a) S = some (lookD fx (.str ⟨#[c]⟩)).isSome := by
  show inD (.str ⟨#[c]⟩) (.ref a) S = _
  unfold inD
  rw [show inS (.str ⟨#[c]⟩) (.ref a) = none from rfl]
  dsimp only
  rw [show dicAt (.ref a) S = some fx by simp only [dicAt, h]]
  dsimp only
  rw [if_pos (fx_ok c)]
theorem v_ixF {a c : Nat} (h : S[a]? = some (.dic fx)) : ixD (.ref a) (.str ⟨#[c]⟩) S = lookD fx (.str ⟨#[c]⟩) := by
  simp only [ixD, h]
  unfold dixD
  rw [if_pos (fx_ok c)]
theorem atG {d : Nat} (h6 : d < 6) : ixD (.str "123456") (.int (d : Int)) S = some (.str ⟨#[49 + d]⟩) := by
  refine v_ixS rfl ?_
  rw [gates]
  match d, h6 with
  | 0, _ => rfl
  | 1, _ => rfl
  | 2, _ => rfl
  | 3, _ => rfl
  | 4, _ => rfl
  | 5, _ => rfl
theorem atL {d : Nat} (h6 : d < 6) : ixD (.str "ABCDEF") (.int (d : Int)) S = some (.str ⟨#[65 + d]⟩) := by
  refine v_ixS rfl ?_
  rw [lids]
  match d, h6 with
  | 0, _ => rfl
  | 1, _ => rfl
  | 2, _ => rfl
  | 3, _ => rfl
  | 4, _ => rfl
  | 5, _ => rfl
theorem v_eqOne {a b : Nat} : cmpD .eq (.str ⟨#[a]⟩) (.str ⟨#[b]⟩) S = some (decide (a = b)) := v_eqS1 rfl
theorem sp15 {c : Nat} {s : List Int} (hs : dr c ≤ s.length) (h6 : s.length ≤ 6) : callN P gl (n + 1) 15 [.str ⟨#[c]⟩, tI s] S = .ok (.str (kdS c s)) S := by
  refine call_eq rfl rfl ?_
  simp only [t15]
  walk_at "ev"
  rw [Nx_nx]
  walk_at "ev"
  rw [show ([(D.str "#", D.str "wall"), (D.str "*", D.str "glass"), (D.str "!", D.str "hole")] : List (D × D)) = fx from rfl]
  have hf := getN S (.dic fx) []
  rw [v_inF hf, fx_look]
  have g49 : c = 35 ∨ c = 42 ∨ c = 33 → ¬ ((49 ≤ c ∧ c ≤ 54) ∧ s.getD (c - 49) 0 = 0) := fun h => by omega
  unfold kdS
  by_cases h1 : c = 35
  · rw [if_pos h1, if_pos h1]
    walk_at "ev"
    rw [v_ixF hf, fx_look, if_pos h1]
    walk_at "ev"
    exact fin_pur rfl ⟨rfl, take_self S _⟩
  · rw [if_neg h1, if_neg h1]
    by_cases h2 : c = 42
    · rw [if_pos h2, if_pos h2]
      walk_at "ev"
      rw [v_ixF hf, fx_look, if_neg h1, if_pos h2]
      walk_at "ev"
      exact fin_pur rfl ⟨rfl, take_self S _⟩
    · rw [if_neg h2, if_neg h2]
      by_cases h3 : c = 33
      · rw [if_pos h3, if_pos h3]
        walk_at "ev"
        rw [v_ixF hf, fx_look, if_neg h1, if_neg h2, if_pos h3]
        walk_at "ev"
        exact fin_pur rfl ⟨rfl, take_self S _⟩
      · rw [if_neg h3, if_neg h3]
        walk_at "ev"
        rw [Nx_nx]
        walk_at "ev"
        rw [rangeP (by omega)]
        walk_at "ev"
        refine W_forM (fun dn ρ S' => ∃ o3, S' = S ++ [.dic fx] ∧ ρ = [some (.str ⟨#[c]⟩), some (tI s), some (.ref S.length), o3] ∧ ∀ k < dn.length, ¬ (c = 49 + k ∧ s.getD k 0 = 0) ∧ ¬ (c = 65 + k ∧ s.getD k 0 = 1)) ⟨_, rfl, rfl, fun k hk => absurd hk (Nat.not_lt_zero _)⟩ (fun _ _ _ _ => good_nil _) (fun dn d rest ρ S' e ⟨o3, g1, g2, g3⟩ => ?_) fun ρ S' ⟨o3, g1, g2, g3⟩ => ?_
        · subst g1 g2
          obtain ⟨hd, hdl⟩ := range_spl e
          have hde : d = dn.length := by
            have h : (List.range s.length)[dn.length]? = (dn ++ d :: rest)[dn.length]? := by rw [e]
            rw [List.getElem?_append_right (Nat.le_refl _), Nat.sub_self, List.getElem?_range hdl] at h
            exact (Option.some.inj h).symm
          have hix : ∀ S, ixD (tI s) (.int (d : Int)) S = some (.int (s.getD d 0)) := fun S => v_ixT rfl (by rw [List.getElem?_map, List.getD_eq_getElem?_getD, List.getElem?_eq_getElem hd]; rfl)
          rw [W_turn1]
          walk_at "ev"
          rw [atG (by omega)]
          walk_at "ev"
          rw [v_eqOne]
          walk_at "ev"
          have next : ∀ o : Option D, ¬ (c = 49 + d ∧ s.getD d 0 = 0) → ¬ (c = 65 + d ∧ s.getD d 0 = 1) → ∃ o3, S ++ [O.dic fx] = S ++ [O.dic fx] ∧ [some (D.str ⟨#[c]⟩), some (tI s), some (.ref S.length), some (.int (d : Int))] = [some (.str ⟨#[c]⟩), some (tI s), some (.ref S.length), o3] ∧ ∀ k < (dn ++ [d]).length, ¬ (c = 49 + k ∧ s.getD k 0 = 0) ∧ ¬ (c = 65 + k ∧ s.getD k 0 = 1) := fun _ q1 q2 => ⟨_, rfl, rfl, fun k hk => by
            rw [List.length_append, List.length_singleton] at hk
            by_cases hkd : k = d
            · rw [hkd]; exact ⟨q1, q2⟩
            · exact g3 k (by omega)⟩
          have lid : ¬ (c = 49 + d ∧ s.getD d 0 = 0) → W (exec ⟨callN P gl n, S.length, gl⟩ (.seq (.ife (.and (.cmp .eq (.var 0) (.ix (.cs "ABCDEF") (.var 3))) (.cmp .eq (.ix (.var 1) (.var 3)) (.num 1))) (.seq (.ret (.cs "hole")) .skip) .skip) .skip) [some (.str ⟨#[c]⟩), some (tI s), some (.ref S.length), some (.int (d : Int))] (S ++ [.dic fx])) fun fl S' => (c = 65 + d ∧ s.getD d 0 = 1 ∧ fl = .rt (.str "hole") ∧ S' = S ++ [.dic fx]) ∨ (¬ (c = 65 + d ∧ s.getD d 0 = 1) ∧ fl = .nx [some (.str ⟨#[c]⟩), some (tI s), some (.ref S.length), some (.int (d : Int))] ∧ S' = S ++ [.dic fx]) := fun q1 => by
            walk_at "ev"
            rw [atL (by omega)]
            walk_at "ev"
            rw [v_eqOne]
            walk_at "ev"
            by_cases h65 : c = 65 + d
            · rw [decide_eq_true h65]
              walk_at "ev"
              rw [hix]
              walk_at "ev"
              by_cases hv : s.getD d 0 = 1
              · rw [show (s.getD d 0 == 1) = true by rw [hv]; rfl]
                walk_at "ev"
                exact .inl ⟨h65, hv, by first | rfl | trivial, by first | rfl | trivial⟩
              · rw [show (s.getD d 0 == 1) = false by rw [beq_eq_false_iff_ne]; exact hv]
                walk_at "ev"
                rw [Nx_nx]
                walk_at "ev"
                exact .inr ⟨fun h => hv h.2, by first | rfl | trivial, by first | rfl | trivial⟩
            · rw [decide_eq_false h65]
              walk_at "ev"
              rw [Nx_nx]
              walk_at "ev"
              exact .inr ⟨fun h => h65 h.1, by first | rfl | trivial, by first | rfl | trivial⟩
          have holes : c = 65 + d → s.getD d 0 = 1 → (if (49 ≤ c ∧ c ≤ 54) ∧ s.getD (c - 49) 0 = 0 then ("wall" : Str) else if (65 ≤ c ∧ c ≤ 70) ∧ s.getD (c - 65) 0 = 1 then "hole" else "free") = "hole" := fun q1 q2 => by
            rw [if_neg (by omega), if_pos ⟨by omega, by rw [show c - 65 = d by omega]; exact q2⟩]
          by_cases h49 : c = 49 + d
          · rw [decide_eq_true h49]
            walk_at "ev"
            rw [hix]
            walk_at "ev"
            by_cases hv : s.getD d 0 = 0
            · rw [show (s.getD d 0 == 0) = true by rw [hv]; rfl]
              walk_at "ev"
              refine fin_pur rfl ⟨?_, take_self S _⟩
              rw [if_pos ⟨by omega, by rw [show c - 49 = d by omega]; exact hv⟩]
            · rw [show (s.getD d 0 == 0) = false by rw [beq_eq_false_iff_ne]; exact hv]
              walk_at "ev"
              rw [Nx_nx]
              refine (lid fun h => hv h.2).mono fun fl S' q => ?_
              rcases q with ⟨q1, q2, q3, q4⟩ | ⟨q1, q2, q3⟩
              · omega
              · subst q2 q3
                exact next none (fun h => hv h.2) q1
          · rw [decide_eq_false h49]
            walk_at "ev"
            rw [Nx_nx]
            refine (lid fun h => h49 h.1).mono fun fl S' q => ?_
            rcases q with ⟨q1, q2, q3, q4⟩ | ⟨q1, q2, q3⟩
            · subst q3 q4
              refine fin_pur rfl ⟨?_, take_self S _⟩
              rw [holes q1 q2]
            · subst q2 q3
              exact next none (fun h => h49 h.1) q1
        · subst g1 g2
          rw [List.length_range] at g3
          rw [Nx_nx]
          walk_at "ev"
          refine fin_pur rfl ⟨?_, take_self S _⟩
          have n1 : ¬ ((49 ≤ c ∧ c ≤ 54) ∧ s.getD (c - 49) 0 = 0) := fun ⟨q1, q2⟩ => by
            have hdr : dr c = c - 48 := by unfold dr; rw [if_pos q1]
            exact (g3 (c - 49) (by omega)).1 ⟨by omega, q2⟩
          have n2 : ¬ ((65 ≤ c ∧ c ≤ 70) ∧ s.getD (c - 65) 0 = 1) := fun ⟨q1, q2⟩ => by
            have hdr : dr c = c - 64 := by unfold dr; rw [if_neg (by omega), if_pos q1]
            exact (g3 (c - 65) (by omega)).2 ⟨by omega, q2⟩
          rw [if_neg n1, if_neg n2]
end
section
variable {ns : List Int} {L T : Sto} {a b s : Int} {w : Nat} {p : Pl}
theorem asT2 (o : O) : DS ns a b s ++ (L ++ T) ++ [o] = DS ns a b s ++ (L ++ (T ++ [o])) := by simp
theorem gT {j : Nat} {o u : O} (h : (L ++ T)[j]? = some o) : (L ++ (T ++ [u]))[j]? = some o := by
  rw [← List.append_assoc]; exact getL h
theorem gN (o : O) : (L ++ (T ++ [o]))[(L ++ T).length]? = some o := by
  rw [← List.append_assoc]; exact getN _ o []
def AnyP : D → Prop := fun v => ∃ p w, v = plD p ∧ OkP w p
theorem stP {l j : Nat} {cs : List Nat} {o4 o5 : Option D} (hl0 : 0 < l) (hl8 : l ≤ 8) (hw0 : 0 < w) (hw8 : w ≤ 8) (hj : (L ++ T)[j]? = some (.lst ((cs.map oneS).map .str))) (hc0 : 0 < cs.length) (hc1 : cs.length < 1000) (ha : 0 ≤ a) (hb : 0 ≤ b) :
    W (exec ⟨callN P gl (n + 2), 2 + L.length, gl⟩ tK13_4 [some (.ref 1), some (.int (l : Int)), some (.int (w : Int)), some (.ref (2 + j)), o4, o5] (DS ns a b s ++ (L ++ T))) (Fin (2 + L.length) (DQ ns L AnyP)) := by
  simp only [tK13_4]
  walk_at "ev"
  rw [v_rangeB (by omega)]
  walk_at "ev"
  refine W_compG (fun d2 acc S' => ∃ (q : List Str) (T : Sto) (a b s : Int), acc = q.map .str ∧ q.length = d2.length ∧ (∀ x ∈ q, x.cps.toList.length = w) ∧ 0 ≤ a ∧ 0 ≤ b ∧ S' = DS ns a b s ++ (L ++ T) ∧ (L ++ T)[j]? = some (.lst ((cs.map oneS).map .str))) ⟨[], T, a, b, s, rfl, rfl, (fun _ h => by cases h), ha, hb, rfl, hj⟩ (fun _ _ _ _ => good_nil _)
    (fun d2 y rest2 acc S' e2 ⟨q, T, a, b, s, h1, h2, h3, ha, hb, h4, hj⟩ => ?_) fun acc S' ⟨q, T, a, b, s, h1, h2, h3, ha, hb, h4, hj⟩ => ?_
  · subst h1 h4
    walk_at "ev"
    rw [v_rangeB (by omega)]
    walk_at "ev"
    refine W_compG (fun d2 acc S' => ∃ (zs : List Nat) (a b s : Int), acc = (zs.map oneS).map .str ∧ zs.length = d2.length ∧ 0 ≤ a ∧ 0 ≤ b ∧ S' = DS ns a b s ++ (L ++ T)) ⟨[], a, b, s, rfl, rfl, ha, hb, rfl⟩ (fun _ _ _ _ => good_nil _)
      (fun d3 y rest3 acc S' e3 ⟨zs, a, b, s, h5, h6, ha, hb, h7⟩ => ?_) fun acc S' ⟨zs, a, b, s, h5, h6, ha, hb, h7⟩ => ?_
    · subst h5 h7
      walk_at "ev"
      refine W_dq (pick_sp (P := P) (g := gl) (n := n) (f := 10) pP10 pP9 (cells := ns) (L := L ++ T) (j := j) (xs := (cs.map oneS).map .str) ha hb hj (by rw [List.length_map, List.length_map]; exact hc0) (by rw [List.length_map, List.length_map]; exact hc1) (purs_all (fun _ => rfl) _)) fun v a1 b1 s1 hv ha1 hb1 => ?_
      obtain ⟨z, hz, rfl⟩ := List.mem_map.mp hv
      obtain ⟨c, hc, rfl⟩ := List.mem_map.mp hz
      exact ⟨zs ++ [c], a1, b1, s1, by simp, by simp [h6], ha1, hb1, rfl⟩
    · subst h5 h7
      rw [rI_len] at h6
      walk_at "ev"
      rw [v_join (getN _ _ []) (by omega)]
      walk_at "ev"
      rw [asT2]
      refine ⟨q ++ [⟨zs.toArray⟩], _, a, b, s, by simp, by simp [h2], fun x hx => ?_, ha, hb, rfl, gT hj⟩
      rcases List.mem_append.mp hx with hx | hx
      · exact h3 x hx
      · rw [List.mem_singleton.mp hx]
        simpa using h6
  · subst h1 h4
    rw [rI_len] at h2
    walk_at "ev"
    rw [sr_ref (getN _ _ [])]
    walk_at "ev"
    rw [asT2]
    exact fin_ds (pur_pl q) ha hb ⟨q, w, rfl, by omega, by omega, hw0, hw8, h3⟩
theorem num8 {v : D} (hv : v ∈ ([.int 1, .int 2, .int 3, .int 4, .int 5, .int 6, .int 7, .int 8, .int 8, .int 1] : List D)) : ∃ l : Nat, 0 < l ∧ l ≤ 8 ∧ v = .int (l : Int) := by
  simp only [List.mem_cons, List.not_mem_nil, or_false] at hv
  rcases hv with rfl | rfl | rfl | rfl | rfl | rfl | rfl | rfl | rfl | rfl
  · exact ⟨1, by omega, by omega, rfl⟩
  · exact ⟨2, by omega, by omega, rfl⟩
  · exact ⟨3, by omega, by omega, rfl⟩
  · exact ⟨4, by omega, by omega, rfl⟩
  · exact ⟨5, by omega, by omega, rfl⟩
  · exact ⟨6, by omega, by omega, rfl⟩
  · exact ⟨7, by omega, by omega, rfl⟩
  · exact ⟨8, by omega, by omega, rfl⟩
  · exact ⟨8, by omega, by omega, rfl⟩
  · exact ⟨1, by omega, by omega, rfl⟩
theorem sp12 {g : Nat → Option D} : callN P g (n + 1) 12 [] S = .ok (.str ".,+abcdefgh#*!123456ABCDEF") S := by
  refine call_eq rfl rfl ?_
  simp only [t12]
  walk_at "ev"
  exact fin_pur rfl ⟨rfl, take_same S⟩
theorem signs_one (z : Str) : signs z = (z.cps.toList.map oneS).map D.str := by
  unfold signs
  rw [List.map_map]
  rfl
theorem sp13 (ha : 0 ≤ a) (hb : 0 ≤ b) : W (callN P gl (n + 3) 13 [.ref 1] (DS ns a b s ++ L)) (DQ ns L AnyP) := by
  refine W_call rfl rfl ?_
  simp only [t13, ds_len]
  walk_at "ev"
  rw [asc, ds_len]
  refine W_dq (pick_sp (P := P) (g := gl) (n := n) (f := 10) pP10 pP9 (cells := ns) (j := L.length) ha hb (getN L _ []) (by simp) (by simp) rfl) fun v a1 b1 s1 hv ha1 hb1 => ?_
  obtain ⟨l, hl0, hl8, rfl⟩ := num8 hv
  rw [Nx_nx]
  walk_at "ev"
  rw [asT2]
  rw [show (DS ns a1 b1 s1 ++ (L ++ [O.lst [D.int 1, D.int 2, D.int 3, D.int 4, D.int 5, D.int 6, D.int 7, D.int 8, D.int 8, D.int 1]])).length = 2 + (L ++ [O.lst [D.int 1, D.int 2, D.int 3, D.int 4, D.int 5, D.int 6, D.int 7, D.int 8, D.int 8, D.int 1]]).length from ds_len]
  refine W_dq (pick_sp (P := P) (g := gl) (n := n) (f := 10) pP10 pP9 (cells := ns) (j := (L ++ [O.lst [D.int 1, D.int 2, D.int 3, D.int 4, D.int 5, D.int 6, D.int 7, D.int 8, D.int 8, D.int 1]]).length) ha1 hb1 (gN _) (by simp) (by simp) rfl) fun v a2 b2 s2 hv ha2 hb2 => ?_
  obtain ⟨w, hw0, hw8, rfl⟩ := num8 hv
  generalize ([O.lst [D.int 1, D.int 2, D.int 3, D.int 4, D.int 5, D.int 6, D.int 7, D.int 8, D.int 8, D.int 1]] ++ [O.lst [D.int 1, D.int 2, D.int 3, D.int 4, D.int 5, D.int 6, D.int 7, D.int 8, D.int 8, D.int 1]] : Sto) = T
  rw [Nx_nx]
  walk_at "ev"
  rw [sp12]
  walk_at "ev"
  rw [Nx_nx, signs_one, asT2, ds_len]
  have hst := gN (L := L) (T := T) (.lst (((".,+abcdefgh#*!123456ABCDEF" : Str).cps.toList.map oneS).map .str))
  have hz : 0 < (".,+abcdefgh#*!123456ABCDEF" : Str).cps.toList.length ∧ (".,+abcdefgh#*!123456ABCDEF" : Str).cps.toList.length < 1000 := by decide +kernel
  generalize (".,+abcdefgh#*!123456ABCDEF" : Str).cps.toList = cs at hst hz ⊢
  generalize (L ++ T).length = j at hst ⊢
  generalize T ++ [O.lst ((cs.map oneS).map .str)] = T at hst ⊢
  walk_at "ev"
  refine W_drw (n := n + 1) (g := gl) (cells := ns) (P := P) pP9 ha2 hb2 (by decide) (by decide) fun y a3 b3 s3 hy0 hy1 ha3 hb3 => ?_
  walk_at "ev"
  refine Br_if (fun hcc => ?_) fun hcc => ?_
  · walk_at "ev"
    refine W_dq (pick_sp (P := P) (g := gl) (n := n) (f := 10) pP10 pP9 (cells := ns) (L := L ++ T) (j := j) (xs := (cs.map oneS).map .str) ha3 hb3 hst (by rw [List.length_map, List.length_map]; exact hz.1) (by rw [List.length_map, List.length_map]; exact hz.2) (purs_all (fun _ => rfl) _)) fun v a4 b4 s4 hv ha4 hb4 => ?_
    obtain ⟨z, hzz, rfl⟩ := List.mem_map.mp hv
    obtain ⟨c1, hc1, rfl⟩ := List.mem_map.mp hzz
    walk_at "ev"
    refine W_dq (pick_sp (P := P) (g := gl) (n := n) (f := 10) pP10 pP9 (cells := ns) (L := L ++ T) (j := j) (xs := (cs.map oneS).map .str) ha4 hb4 hst (by rw [List.length_map, List.length_map]; exact hz.1) (by rw [List.length_map, List.length_map]; exact hz.2) (purs_all (fun _ => rfl) _)) fun v a5 b5 s5 hv ha5 hb5 => ?_
    obtain ⟨z, hzz, rfl⟩ := List.mem_map.mp hv
    obtain ⟨c2, hc2, rfl⟩ := List.mem_map.mp hzz
    walk_at "ev"
    rw [Nx_nx]
    walk_at "ev"
    rw [Nx_nx, asT2, ds_len]
    exact stP (cs := [c1, c2]) hl0 hl8 hw0 hw8 (gN _) (by simp) (by simp) ha5 hb5
  · walk_at "ev"
    rw [Nx_nx]
    exact stP hl0 hl8 hw0 hw8 hst hz.1 hz.2 ha3 hb3
/-! 16: two settings -/
def TwoQ (ns : List Int) (L : Sto) (k : Nat) : D → Sto → Prop := fun v S' => v = .ref (2 + L.length) ∧ ∃ (a b s : Int) (x y : List Int), 0 ≤ a ∧ 0 ≤ b ∧ x.length = k ∧ y.length = k ∧ S' = DS ns a b s ++ (L ++ [.lst [tI x, tI y]])
theorem two_pur (x y : List Int) : (O.lst [tI x, tI y]).pur = true := by
  show ((tI x).pur && ((tI y).pur && true)) = true
  rw [pur_tI, pur_tI]; rfl
theorem fin_dat {j : Nat} {v : O} {Q : D → Sto → Prop} (ho : v.pur = true) (hT : (L ++ T)[j]? = some v) (hj : L.length ≤ j) (q : Q (.ref (2 + L.length)) (DS ns a b s ++ (L ++ [v]))) : Fin (2 + L.length) Q (.rt (.ref (2 + j))) (DS ns a b s ++ (L ++ T)) := by
  have e : (DS ns a b s ++ (L ++ T)).take (2 + L.length) = DS ns a b s ++ L := by
    rw [← List.append_assoc, ← ds_len (cells := ns) (L := L) (a := a) (b := b) (s := s), List.take_left' rfl]
  refine fin_new (o := v) (by omega) (ds_L hT) ho ?_
  rw [e, List.append_assoc]
  exact q
theorem v_slFrom1 {xs : List Int} {j : Nat} (hj : j ≤ xs.length) : sliceD (tI xs) (some (j : Int)) none S = .ok (tI (xs.drop j)) S := by
  show R.ok (D.tup (cutD (xs.map D.int) (some (j : Int)) none)) S = _
  unfold cutD sIx
  dsimp only
  rw [if_neg (by omega), List.length_map, Int.toNat_natCast, Nat.min_eq_left hj, List.take_of_length_le (by rw [List.length_drop, List.length_map]; exact Nat.le_refl _), List.map_drop.symm]
  rfl
theorem sp16 {k : Nat} (hk : k ≤ 6) (ha : 0 ≤ a) (hb : 0 ≤ b) : W (callN P gl (n + 2) 16 [.ref 1, .int (k : Int)] (DS ns a b s ++ L)) (TwoQ ns L k) := by
  refine W_call rfl rfl ?_
  simp only [t16, ds_len]
  walk_at "ev"
  rw [v_rangeB (by omega)]
  walk_at "ev"
  refine W_draws (many := 2) (n := n) (g := gl) (P := P) (dr := 9) (cells := ns) pP9 ha hb (by decide) (by decide) (fun x S => ?_) fun ts a1 b1 s1 htl ht ha1 hb1 => ?_
  · walk_at "ev"
  rw [List.length_map, rI_len] at htl
  walk_at "ev"
  rw [sr_ref (getN _ _ [])]
  walk_at "ev"
  rw [Nx_nx, asc]
  rw [show D.tup (ts.map D.int) = tI ts from rfl]
  walk_at "ev"
  by_cases h0 : k = 0
  · rw [show (((k : Nat) : Int) == 0) = true by rw [h0]; rfl]
    walk_at "ev"
    rw [asT2, ds_len]
    exact fin_dat (two_pur ts ts) (gN _) (by rw [List.length_append]; omega) ⟨rfl, a1, b1, s1, ts, ts, ha1, hb1, htl, htl, rfl⟩
  · rw [show (((k : Nat) : Int) == 0) = false by rw [beq_eq_false_iff_ne]; omega]
    walk_at "ev"
    rw [Nx_nx]
    walk_at "ev"
    refine W_drw (n := n) (g := gl) (cells := ns) (P := P) pP9 ha1 hb1 (by omega) (by omega) fun y a2 b2 s2 hy0 hy1 ha2 hb2 => ?_
    obtain ⟨y, rfl⟩ : ∃ i : Nat, y = i := ⟨y.toNat, by omega⟩
    rw [Nx_nx]
    walk_at "ev"
    rw [v_slTo1 (by omega)]
    walk_at "ev"
    rw [show ∀ S, ixD (tI ts) (.int (y : Int)) S = some (.int (ts.getD y 0)) from fun S => v_ixT rfl (by rw [List.getElem?_map, List.getD_eq_getElem?_getD, List.getElem?_eq_getElem (by omega)]; rfl)]
    walk_at "ev"
    rw [show ∀ S, binD .add (tI (ts.take y)) (.tup [.int (1 - ts.getD y 0)]) S = .ok (tI (ts.take y ++ [1 - ts.getD y 0])) S from fun S => v_snoc (by rw [List.length_take]; omega)]
    walk_at "ev"
    rw [show ((y : Int) + 1) = ((y + 1 : Nat) : Int) from rfl, v_slFrom1 (by omega)]
    walk_at "ev"
    have h1 : (ts.take y ++ [1 - ts.getD y 0]).length = y + 1 := by rw [List.length_append, List.length_take, List.length_singleton]; omega
    generalize ts.take y ++ [1 - ts.getD y 0] = u at h1
    have h2 : (ts.drop (y + 1)).length = k - (y + 1) := by rw [List.length_drop, htl]
    generalize ts.drop (y + 1) = v at h2
    rw [show ∀ S, binD .add (tI u) (tI v) S = .ok (tI (u ++ v)) S from fun S => by
      show binD .add (.tup (u.map .int)) (.tup (v.map .int)) S = _
      rw [v_tcat (by rw [List.length_map, List.length_map]; unfold sizeMax; omega), ← List.map_append]
      rfl]
    walk_at "ev"
    rw [asT2, ds_len]
    exact fin_dat (two_pur ts (u ++ v)) (gN _) (by rw [List.length_append]; omega) ⟨rfl, a2, b2, s2, ts, u ++ v, ha2, hb2, htl, by rw [List.length_append]; omega, rfl⟩
end
section
variable {w : Nat} {p : Pl}
theorem sig9 : ("0abcdefgh" : Str).cps.toList = [48, 97, 98, 99, 100, 101, 102, 103, 104] := by decide +kernel
theorem find9 (c : Nat) : (if findC "0abcdefgh" c > 0 then findC "0abcdefgh" c else 0) = if 97 ≤ c ∧ c ≤ 104 then (c : Int) - 96 else 0 := by
  have e : findC "0abcdefgh" c = if 97 ≤ c ∧ c ≤ 104 then (c : Int) - 96 else if c = 48 then 0 else -1 := by
    unfold findC
    rw [sig9]
    by_cases h : 97 ≤ c ∧ c ≤ 104
    · rw [if_pos h]
      obtain ⟨k, rfl⟩ : ∃ k, c = 97 + k := ⟨c - 97, by omega⟩
      have hk : k < 8 := by omega
      match k, hk with
      | 0, _ => rfl
      | 1, _ => rfl
      | 2, _ => rfl
      | 3, _ => rfl
      | 4, _ => rfl
      | 5, _ => rfl
      | 6, _ => rfl
      | 7, _ => rfl
    · rw [if_neg h]
      by_cases h2 : c = 48
      · subst h2; rfl
      · rw [if_neg h2]
        have : (([48, 97, 98, 99, 100, 101, 102, 103, 104] : List Nat).findIdx? fun d => d == c) = none := by
          rw [List.findIdx?_eq_none_iff]
          intro d hd
          rw [beq_eq_false_iff_ne]
          simp only [List.mem_cons, List.not_mem_nil, or_false] at hd
          omega
        rw [this]
  rw [e]
  split
  · split <;> omega
  · split <;> rfl
theorem v_maxI0 {x : Int} : biD .max [.int 0, .int x] S = .ok (.int (if x > 0 then x else 0)) S := rfl
theorem pur_oN (o : Option Nat) : (oN o).pur = true := by cases o <;> rfl
theorem dep_oN (o : Option Nat) : (oN o).dep = 0 := by cases o <;> rfl
def stp : List D := [.tup [.int (-1), .int 0], .tup [.int 0, .int 1], .tup [.int 1, .int 0], .tup [.int 0, .int (-1)]]
theorem stp_at {d : Nat} (h : d < 4) : stp[d]? = some (.tup [.int (dn (d : Int)), .int (rt (d : Int))]) := by
  match d, h with
  | 0, _ => rfl
  | 1, _ => rfl
  | 2, _ => rfl
  | 3, _ => rfl
theorem sp17 (ok : OkP w p) {x y : List Int} (hx : x.length = doorsP p) (hy : y.length = doorsP p) {j l k : Nat} (hl : l < p.length) (hk : k < w) (hj : S[j]? = some (.lst [tI x, tI y])) : callN P gl (n + 4) 17 [plD p, .ref j, .int (l : Int), .int (k : Int)] S = .ok (.bl true) S := by
  have h6 := doors6 p
  have hw := ok.w0
  have hw8 := ok.w8
  have hh8 := ok.h8
  obtain ⟨hq1, hq2⟩ := divmod_of (l := l) hk
  have hc : l * w + k < w * p.length := by
    calc l * w + k < l * w + w := by omega
      _ = (l + 1) * w := by rw [Nat.succ_mul]
      _ ≤ p.length * w := Nat.mul_le_mul_right _ hl
      _ = w * p.length := Nat.mul_comm _ _
  obtain ⟨l0, e0, e1⟩ := head_at ok
  obtain ⟨ln, hlm, g1, g2, g3⟩ := chr_at ok hc
  rw [hq1] at g1
  rw [hq2] at g2
  refine call_eq rfl rfl ?_
  simp only [t17]
  walk_at "ev"
  rw [ix_pl (k := 0) (i := (0 : Int)) e0 rfl]
  walk_at "ev"
  rw [len_str, e1]
  walk_at "ev"
  rw [Nx_nx]
  walk_at "ev"
  rw [v_mul (by omega)]
  walk_at "ev"
  rw [show ((l * w : Nat) : Int) + (k : Int) = ((l * w + k : Nat) : Int) from rfl]
  rw [Nx_nx]
  walk_at "ev"
  rw [ix_pl g1 rfl]
  walk_at "ev"
  rw [v_ixS rfl g2]
  walk_at "ev"
  rw [Nx_nx]
  walk_at "ev"
  rw [show ∀ S, callN P gl (n + 3) 6 [plD p, .int ((l * w + k : Nat) : Int)] S = _ from fun S => mark_sp (n := n) pP6 pP1 pP0 rfl ok hc]
  walk_at "ev"
  rw [Nx_nx]
  walk_at "ev"
  rw [isInt_sp (n := n + 2) pP11]
  walk_at "ev"
  rw [v_find]
  walk_at "ev"
  rw [v_maxI0, find9]
  walk_at "ev"
  rw [show ((mkP p w (l * w + k)) == (if 97 ≤ chr p w (l * w + k) ∧ chr p w (l * w + k) ≤ 104 then (chr p w (l * w + k) : Int) - 96 else 0)) = true from by unfold mkP; simp]
  walk_at "ev"
  rw [Nx_nx]
  walk_at "ev"
  rw [sr_ref hj]
  walk_at "ev"
  rw [show ([tI x, tI y] : List D) = [x, y].map tI from rfl]
  refine W_forM (fun dn ρ S' => ∃ o8, S' = S ∧ ρ = [some (plD p), some (.ref j), some (.int (l : Int)), some (.int (k : Int)), some (.int (w : Int)), some (.int ((l * w + k : Nat) : Int)), some (.str ⟨#[chr p w (l * w + k)]⟩), some (.int (mkP p w (l * w + k))), o8, none, none, none, none, none, none]) ⟨_, rfl, rfl⟩ (fun dn ρ S' ⟨_, h, _⟩ => h ▸ good_one hj) (fun d2 z rest ρ S' e ⟨o8, h1, h2⟩ => ?_) fun ρ S' ⟨o8, h1, h2⟩ => ?_
  · subst h1 h2
    have hz : z.length = doorsP p := by
      have : z ∈ [x, y] := by rw [e]; simp
      simp only [List.mem_cons, List.not_mem_nil, or_false] at this
      rcases this with rfl | rfl
      · exact hx
      · exact hy
    have hs : OkS p z := okS_doors (by omega)
    rw [W_turn1]
    walk_at "ev"
    rw [show ∀ S, callN P gl (n + 3) 5 [plD p, tI z, .int ((l * w + k : Nat) : Int)] S = _ from fun S => kind_sp (n := n) pP5 pP1 pP0 pP2 pP3 rfl rfl rfl ok hs hc]
    walk_at "ev"
    rw [sp15 (n := n + 2) (chr_dr ok hs hc) (by omega)]
    walk_at "ev"
    rw [v_neStr, show (kdS (chr p w (l * w + k)) z == kdS (chr p w (l * w + k)) z) = true from by simp]
    walk_at "ev"
    rw [Nx_nx]
    walk_at "ev"
    exact ⟨_, trivial, rfl⟩
  · subst h1 h2
    rw [Nx_nx]
    walk_at "ev"
    rw [Nx_nx]
    walk_at "ev"
    rw [show ([.tup [.int (-1), .int 0], .tup [.int 0, .int 1], .tup [.int 1, .int 0], .tup [.int 0, .int (-1)]] : List D) = stp from rfl]
    rw [show rangeSrc (.int 0) (.int 4) = some ⟨(List.range 4).map fun (k : Nat) => D.int (k : Int), []⟩ from rangeP (m := 4) (by decide)]
    walk_at "ev"
    have hst := getN S' (.lst stp) []
    refine W_forM (fun d2 ρ S2 => ∃ o10 o11 o12 o13 o14, S2 = S' ++ [.lst stp] ∧ ρ = [some (plD p), some (.ref j), some (.int (l : Int)), some (.int (k : Int)), some (.int (w : Int)), some (.int ((l * w + k : Nat) : Int)), some (.str ⟨#[chr p w (l * w + k)]⟩), some (.int (mkP p w (l * w + k))), o8, some (.ref S'.length), o10, o11, o12, o13, o14]) ⟨_, _, _, _, _, rfl, rfl⟩ (fun _ _ _ _ => good_nil _) (fun d2 d rest ρ S2 e ⟨o10, o11, o12, o13, o14, h1, h2⟩ => ?_) fun ρ S2 ⟨o10, o11, o12, o13, o14, h1, h2⟩ => ?_
    · subst h1 h2
      have hd := (range_spl e).1
      rw [W_turn1]
      walk_at "ev"
      rw [v_ixL hst rfl (stp_at hd)]
      walk_at "ev"
      rw [show ∀ (a b : D) S, ixD (.tup [a, b]) (.int 0) S = some a from fun _ _ _ => rfl]
      walk_at "ev"
      rw [Nx_nx]
      walk_at "ev"
      rw [v_ixL hst rfl (stp_at hd)]
      walk_at "ev"
      rw [show ∀ (a b : D) S, ixD (.tup [a, b]) (.int 1) S = some b from fun _ _ _ => rfl]
      walk_at "ev"
      rw [Nx_nx]
      walk_at "ev"
      rw [Nx_nx]
      have f7 : ∀ S, callN P gl (n + 3) 7 [plD p, .int ((l * w + k : Nat) : Int), .int (d : Int)] S = .ok (oN (nxP w p.length (l * w + k) d)) S := fun S => nextc_sp (n := n + 1) pP7 pP0 rfl rfl ok (by omega) (by omega)
      have hnx : nxP w p.length (l * w + k) d = if (0 ≤ (l : Int) + dn d ∧ (l : Int) + dn d < p.length) ∧ (0 ≤ (k : Int) + rt d ∧ (k : Int) + rt d < w) then some (((l : Int) + dn d) * w + ((k : Int) + rt d)).toNat else none := by
        unfold nxP
        rw [hq1, hq2]
      have tail : W (exec ⟨callN P gl (n + 3), S'.length, gl⟩ (.seq (.set 14 (.call 7 (.cons (.var 0) (.cons (.var 5) (.cons (.var 10) .nil))))) (.seq (.ife (.or (.cmp .ne (.var 14) (.var 13)) (.isi (.var 14) .bool)) (.seq (.ret (.cb false)) .skip) .skip) .skip))
          [some (plD p), some (.ref j), some (.int (l : Int)), some (.int (k : Int)), some (.int (w : Int)), some (.int ((l * w + k : Nat) : Int)), some (.str ⟨#[chr p w (l * w + k)]⟩), some (.int (mkP p w (l * w + k))), o8, some (.ref S'.length), some (.int (d : Int)), some (.int ((l : Int) + dn d)), some (.int ((k : Int) + rt d)), some (oN (nxP w p.length (l * w + k) d)), o14] (S' ++ [.lst stp])) fun fl S2 => ∃ ρ', fl = .nx ρ' ∧ ∃ o10 o11 o12 o13 o14, S2 = S' ++ [.lst stp] ∧ ρ' = [some (plD p), some (.ref j), some (.int (l : Int)), some (.int (k : Int)), some (.int (w : Int)), some (.int ((l * w + k : Nat) : Int)), some (.str ⟨#[chr p w (l * w + k)]⟩), some (.int (mkP p w (l * w + k))), o8, some (.ref S'.length), o10, o11, o12, o13, o14] := by
        walk_at "ev"
        rw [f7]
        walk_at "ev"
        rw [Nx_nx]
        generalize nxP w p.length (l * w + k) d = o
        walk_at "ev"
        rw [v_neself (pur_oN o) (by rw [dep_oN]; decide)]
        walk_at "ev"
        rw [show isiD (oN o) .bool = some false from by cases o <;> rfl]
        walk_at "ev"
        rw [Nx_nx]
        walk_at "ev"
        exact ⟨_, rfl, _, _, _, _, _, by first | rfl | trivial, rfl⟩
      walk_at "ev"
      rw [len_pl]
      walk_at "ev"
      refine Br_if (fun hcc => ?_) fun hcc => ?_
      · rw [Bool.and_eq_true, Bool.and_eq_true, Bool.and_eq_true, le_ndlt, le_ndlt, decide_eq_true_eq, decide_eq_true_eq, decide_eq_true_eq, decide_eq_true_eq] at hcc
        rw [if_pos hcc] at hnx
        rw [hnx] at tail
        have hpos : 0 ≤ ((l : Int) + dn d) * w := Int.mul_nonneg hcc.1.1 (by omega)
        have hval : oN (some (((l : Int) + dn d) * w + ((k : Int) + rt d)).toNat) = .int (((l : Int) + dn d) * w + ((k : Int) + rt d)) := by
          show D.int (((((l : Int) + dn d) * w + ((k : Int) + rt d)).toNat : Nat) : Int) = _
          rw [Int.toNat_of_nonneg (by omega)]
        rw [hval] at tail
        walk_at "ev"
        rw [v_mulR (show (w : Int).natAbs < 2 ^ 64 by omega)]
        walk_at "ev"
        rw [Nx_nx]
        walk_at "ev"
        rw [Nx_nx]
        refine tail.mono fun fl S2 ⟨ρ', q1, q2⟩ => ?_
        subst q1
        exact q2
      · have hcc : ¬ ((0 ≤ (l : Int) + dn d ∧ (l : Int) + dn d < p.length) ∧ (0 ≤ (k : Int) + rt d ∧ (k : Int) + rt d < w)) := fun h => by
          have : (!decide ((l : Int) + dn d < 0) && decide ((l : Int) + dn d < (p.length : Int)) && (!decide ((k : Int) + rt d < 0) && decide ((k : Int) + rt d < (w : Int)))) = true := by
            rw [Bool.and_eq_true, Bool.and_eq_true, Bool.and_eq_true, le_ndlt, le_ndlt, decide_eq_true_eq, decide_eq_true_eq, decide_eq_true_eq, decide_eq_true_eq]
            exact h
          rw [this] at hcc
          cases hcc
        rw [if_neg hcc] at hnx
        rw [hnx] at tail
        walk_at "ev"
        rw [Nx_nx]
        refine tail.mono fun fl S2 ⟨ρ', q1, q2⟩ => ?_
        subst q1
        exact q2
    · subst h1 h2
      rw [Nx_nx]
      walk_at "ev"
      exact fin_pur rfl ⟨rfl, take_self S' _⟩
end
/-! the law -/
noncomputable abbrev cx : Ctx := ⟨callN P gl 19, 0, gl⟩
def QF : Fl → Sto → Prop := Fin 0 fun v _ => v = D.bl true
theorem qf_true {S : Sto} : QF (.rt (.bl true)) S := fin_pur rfl rfl
section
variable {ns : List Int} {a b s : Int} {L T : Sto} {w : Nat} {p q : Pl} {d0 : D}
/-- the plans' store -/
structure Wel (S : Sto) (j2 j3 j4 j5 w w2 : Nat) (p q : Pl) : Prop where
  fl : S[j2]? = some (.lst [plD p, plD q])
  pr : S[j3]? = some (.lst [.ref j4, .ref j5])
  s4 : ∃ x y : List Int, x.length = doorsP p ∧ y.length = doorsP p ∧ S[j4]? = some (.lst [tI x, tI y])
  s5 : ∃ x y : List Int, x.length = doorsP q ∧ y.length = doorsP q ∧ S[j5]? = some (.lst [tI x, tI y])
  o1 : OkP w p
  o2 : OkP w2 q
theorem stC {j2 j3 j4 j5 w2 : Nat} {o4 o5 o6 o7 o8 o9 : Option D} {S : Sto} (h : Wel S j2 j3 j4 j5 w w2 p q) : W (exec cx tK18_5 [some d0, some (.ref 1), some (.ref j2), some (.ref j3), o4, o5, o6, o7, o8, o9] S) QF := by
  simp only [tK18_5]
  walk_at "ev"
  rw [sr_ref h.fl]
  walk_at "ev"
  rw [show ([plD p, plD q] : List D) = [p, q].map plD from rfl]
  refine W_compM (fun _ => D.bl true) (good_one h.fl) (fun z _ => ?_) ?_
  · walk_at "ev"
    rw [sp4 (n := 17)]
    walk_at "ev"
    rw [sp14 (n := 18)]
    walk_at "ev"
    rw [show (((doorsP z : Nat) : Int) == (doorsP z : Nat)) = true by simp]
  · walk_at "ev"
    rw [show biD .all [.ref S.length] (S ++ [.lst [.bl true, .bl true]]) = .ok (.bl true) _ from by
      show lft ((lstItems (.ref S.length) (S ++ [.lst [.bl true, .bl true]])).bind _) _ = _
      simp only [lstItems, getN S (.lst [.bl true, .bl true]) []]
      rfl]
    walk_at "ev"
    exact qf_true
theorem stB {j2 j3 j4 j5 w2 : Nat} {o4 o5 o6 : Option D} {S : Sto} (h : Wel S j2 j3 j4 j5 w w2 p q) : W (exec cx tK18_4 [some d0, some (.ref 1), some (.ref j2), some (.ref j3), o4, o5, o6, none, none, none] S) QF := by
  simp only [tK18_4]
  walk_at "ev"
  rw [show rangeSrc (.int 0) (.int 8) = some ⟨(List.range 8).map fun (k : Nat) => D.int (k : Int), []⟩ from rangeP (m := 8) (by decide)]
  walk_at "ev"
  refine W_forM (fun dn ρ S' => ∃ o7 o8 o9, S' = S ∧ ρ = [some d0, some (.ref 1), some (.ref j2), some (.ref j3), o4, o5, o6, o7, o8, o9]) ⟨_, _, _, rfl, rfl⟩ (fun _ _ _ _ => good_nil _) (fun dn l rest ρ S' e ⟨o7, o8, o9, h1, h2⟩ => ?_) fun ρ S' ⟨o7, o8, o9, h1, h2⟩ => ?_
  · subst h1 h2
    rw [W_turn1]
    walk_at "ev"
    rw [show rangeSrc (.int 0) (.int 8) = some ⟨(List.range 8).map fun (k : Nat) => D.int (k : Int), []⟩ from rangeP (m := 8) (by decide)]
    walk_at "ev"
    refine W_forM (fun dn ρ S2 => ∃ o8 o9, S2 = S' ∧ ρ = [some d0, some (.ref 1), some (.ref j2), some (.ref j3), o4, o5, o6, some (.int (l : Int)), o8, o9]) ⟨_, _, rfl, rfl⟩ (fun _ _ _ _ => good_nil _) (fun dn c rest ρ S2 e ⟨o8, o9, h1, h2⟩ => ?_) fun ρ S2 ⟨o8, o9, h1, h2⟩ => ?_
    · subst h1 h2
      rw [W_turn1]
      walk_at "ev"
      rw [show rangeSrc (.int 0) (.int 2) = some ⟨(List.range 2).map fun (k : Nat) => D.int (k : Int), []⟩ from rangeP (m := 2) (by decide)]
      walk_at "ev"
      refine W_forM (fun dn ρ S3 => ∃ o9, S3 = S2 ∧ ρ = [some d0, some (.ref 1), some (.ref j2), some (.ref j3), o4, o5, o6, some (.int (l : Int)), some (.int (c : Int)), o9]) ⟨_, rfl, rfl⟩ (fun _ _ _ _ => good_nil _) (fun dn k rest ρ S3 e ⟨o9, h1, h2⟩ => ?_) fun ρ S3 ⟨o9, h1, h2⟩ => ?_
      · subst h1 h2
        have hk := (range_spl e).1
        rw [W_turn1]
        walk_at "ev"
        obtain ⟨z, wz, jz, x, y, g1, g2, g3, g4, g5, g6⟩ : ∃ z wz jz x y, ([plD p, plD q] : List D)[k]? = some (plD z) ∧ ([.ref j4, .ref j5] : List D)[k]? = some (.ref jz) ∧ OkP wz z ∧ x.length = doorsP z ∧ y.length = doorsP z ∧ S3[jz]? = some (.lst [tI x, tI y]) := by
          obtain ⟨x, y, a1, a2, a3⟩ := h.s4
          obtain ⟨x2, y2, b1, b2, b3⟩ := h.s5
          match k, hk with
          | 0, _ => exact ⟨p, w, j4, x, y, rfl, rfl, h.o1, a1, a2, a3⟩
          | 1, _ => exact ⟨q, w2, j5, x2, y2, rfl, rfl, h.o2, b1, b2, b3⟩
        obtain ⟨z0, e0, e1⟩ := head_at g3
        rw [v_ixL h.fl rfl g1]
        walk_at "ev"
        rw [len_pl]
        walk_at "ev"
        cases hl : decide ((l : Int) < (z.length : Int)) with
        | false =>
          walk_at "ev"
          rw [Nx_nx]
          walk_at "ev"
          exact ⟨_, trivial, rfl⟩
        | true =>
          walk_at "ev"
          rw [v_ixL h.fl rfl g1]
          walk_at "ev"
          rw [ix_pl (k := 0) (i := (0 : Int)) e0 rfl]
          walk_at "ev"
          rw [len_str, e1]
          walk_at "ev"
          cases hc : decide ((c : Int) < (wz : Int)) with
          | false =>
            walk_at "ev"
            rw [Nx_nx]
            walk_at "ev"
            exact ⟨_, trivial, rfl⟩
          | true =>
            walk_at "ev"
            rw [v_ixL h.fl rfl g1]
            walk_at "ev"
            rw [v_ixL h.pr rfl g2]
            walk_at "ev"
            have hl := of_decide_eq_true hl
            have hc := of_decide_eq_true hc
            rw [sp17 (n := 15) g3 g4 g5 (by omega) (by omega) g6]
            walk_at "ev"
            rw [Nx_nx]
            walk_at "ev"
            rw [Nx_nx]
            walk_at "ev"
            exact ⟨_, trivial, rfl⟩
      · subst h1 h2
        rw [Nx_nx]
        walk_at "ev"
        exact ⟨_, _, trivial, rfl⟩
    · subst h1 h2
      rw [Nx_nx]
      walk_at "ev"
      exact ⟨_, _, _, trivial, rfl⟩
  · subst h1 h2
    rw [Nx_nx]
    exact stC h
end
section
variable {ns : List Int} {a b s : Int} {L T : Sto} {w : Nat} {p q : Pl} {d0 : D}
def prs (L : Sto) (k : Nat) : List D := (List.range k).map fun i => D.ref (2 + (L.length + 1 + i))
def ssO (ss : List (List Int × List Int)) : Sto := ss.map fun u => O.lst [tI u.1, tI u.2]
theorem ssO_at {ss : List (List Int × List Int)} {i : Nat} {u : List Int × List Int} {o : O} (h : ss[i]? = some u) : (L ++ o :: ssO ss)[L.length + 1 + i]? = some (.lst [tI u.1, tI u.2]) := by
  rw [List.getElem?_append_right (by omega)]
  rw [show L.length + 1 + i - L.length = i + 1 by omega, List.getElem?_cons_succ]
  unfold ssO
  rw [List.getElem?_map, h]
  rfl
theorem stA {j w2 : Nat} (hj : ∀ T, (L ++ T)[j]? = some (.lst [plD p, plD q])) (o1 : OkP w p) (o2 : OkP w2 q) (ha : 0 ≤ a) (hb : 0 ≤ b) :
    W (exec cx tK18_3 [some d0, some (.ref 1), some (.ref (2 + j)), some (.ref (2 + L.length)), none, none, none, none, none, none] (DS ns a b s ++ (L ++ [O.lst []]))) QF := by
  simp only [tK18_3]
  walk_at "ev"
  rw [sr_ref (ds_L (hj _))]
  walk_at "ev"
  rw [show ([plD p, plD q] : List D) = [p, q].map plD from rfl]
  refine W_forM (fun dn ρ S' => ∃ (a b s : Int) (ss : List (List Int × List Int)) (o4 o5 o6 : Option D), 0 ≤ a ∧ 0 ≤ b ∧ S' = DS ns a b s ++ (L ++ O.lst (prs L ss.length) :: ssO ss) ∧ ss.length = dn.length ∧ (∀ (i : Nat) (z : Pl), dn[i]? = some z → ∃ u : List Int × List Int, ss[i]? = some u ∧ u.1.length = doorsP z ∧ u.2.length = doorsP z) ∧ ρ = [some d0, some (.ref 1), some (.ref (2 + j)), some (.ref (2 + L.length)), o4, o5, o6, none, none, none]) ⟨a, b, s, [], _, _, _, ha, hb, rfl, rfl, (fun i z h => by cases h), rfl⟩ (fun dn ρ S' ⟨_, _, _, _, _, _, _, _, _, h, _⟩ => h ▸ good_one (ds_L (hj _))) (fun dn z rest ρ S' e ⟨a, b, s, ss, o4, o5, o6, ha, hb, h1, h2, h3, h4⟩ => ?_) fun ρ S' ⟨a, b, s, ss, o4, o5, o6, ha, hb, h1, h2, h3, h4⟩ => ?_
  · subst h1 h4
    have hss : ss.length ≤ 2 := by
      have := congrArg List.length e
      rw [List.length_append, List.length_cons] at this
      simp only [List.length_cons, List.length_nil] at this
      omega
    rw [W_turn1]
    walk_at "ev"
    rw [sp14 (n := 18)]
    walk_at "ev"
    rw [Nx_nx]
    walk_at "ev"
    rw [sp4 (n := 17)]
    walk_at "ev"
    rw [Nx_nx]
    walk_at "ev"
    rw [isInt_sp (n := 18) pP11]
    walk_at "ev"
    rw [show (((doorsP z : Nat) : Int) == (doorsP z : Nat)) = true by simp]
    walk_at "ev"
    rw [show (false || false) = false from rfl]
    walk_at "ev"
    rw [Nx_nx]
    walk_at "ev"
    rw [mtOk_l (ds_L (getN L _ _))]
    walk_at "ev"
    refine (sp16 (n := 17) (ns := ns) (L := L ++ O.lst (prs L ss.length) :: ssO ss) (s := s) (doors6 z) ha hb).mono fun v S2 ⟨hv, a1, b1, s1, x, y, ha1, hb1, hx, hy, hS⟩ => ?_
    subst hv hS
    walk_at "ev"
    have hlen : (L ++ O.lst (prs L ss.length) :: ssO ss).length = L.length + 1 + ss.length := by
      unfold ssO
      rw [List.length_append, List.length_cons, List.length_map]
      omega
    rw [hlen]
    have hpa : okPut 0 (2 + L.length) (.ref (2 + (L.length + 1 + ss.length))) = true := by simp [okPut]
    rw [show L ++ O.lst (prs L ss.length) :: ssO ss ++ [O.lst [tI x, tI y]] = L ++ O.lst (prs L ss.length) :: ssO (ss ++ [(x, y)]) by unfold ssO; simp]
    rw [v_app (ds_L (getN L _ _)) (by unfold prs; rw [List.length_map, List.length_range]; unfold sizeMax; omega) hpa, ds_set, setN]
    walk_at "ev"
    rw [Nx_nx]
    walk_at "ev"
    refine ⟨a1, b1, s1, ss ++ [(x, y)], _, _, _, ha1, hb1, ?_, by simp [h2], fun i z2 hi => ?_, rfl⟩
    · rw [show prs L ss.length ++ [D.ref (2 + (L.length + 1 + ss.length))] = prs L (ss ++ [(x, y)]).length by unfold prs; rw [List.length_append, List.length_singleton, List.range_succ, List.map_append]; rfl]
    · rcases Nat.lt_or_ge i dn.length with hlt | hge
      · rw [List.getElem?_append_left hlt] at hi
        obtain ⟨u, hu, q1⟩ := h3 i z2 hi
        exact ⟨u, by rw [List.getElem?_append_left (by omega)]; exact hu, q1⟩
      · have hie : i = dn.length := by
          have := (List.getElem?_eq_some_iff.mp hi).1
          rw [List.length_append, List.length_singleton] at this
          omega
        subst hie
        rw [List.getElem?_append_right (Nat.le_refl _), Nat.sub_self] at hi
        have : z = z2 := Option.some.inj hi
        subst this
        exact ⟨(x, y), by rw [← h2, List.getElem?_append_right (Nat.le_refl _), Nat.sub_self]; rfl, hx, hy⟩
  · subst h1 h4
    rw [Nx_nx]
    obtain ⟨u0, q0, q1, q2⟩ := h3 0 p rfl
    obtain ⟨u1, r0, r1, r2⟩ := h3 1 q rfl
    have hss : ss.length = 2 := h2
    refine stB (j2 := 2 + j) (j3 := 2 + L.length) (j4 := 2 + (L.length + 1 + 0)) (j5 := 2 + (L.length + 1 + 1)) ⟨ds_L (hj _), ?_, ⟨u0.1, u0.2, q1, q2, ds_L (ssO_at q0)⟩, ⟨u1.1, u1.2, r1, r2, ds_L (ssO_at r0)⟩, o1, o2⟩
    rw [hss]
    exact ds_L (getN L _ _)
end
theorem law_run (ns : List Int) : W (callN P gl 20 18 [.fls (ns.map .int)] []) fun v _ => v = .bl true := by
  refine W_call rfl rfl ?_
  simp only [t18]
  walk_at "ev"
  have e2 := begin_sp (g := gl) (n := 18) pP8 ns
  rw [e2]
  walk_at "ev"
  rw [Nx_nx]
  walk_at "ev"
  obtain ⟨L0, hD⟩ : ∃ L0 : Sto, DS ns 0 0 7 = DS ns 0 0 7 ++ L0 := ⟨[], by simp⟩
  rw [hD]
  clear hD e2
  refine W_dq (sp13 (n := 16) (ns := ns) (L := L0) (Int.le_refl 0) (Int.le_refl 0)) fun v a1 b1 s1 ⟨p, w, hv, ok⟩ ha1 hb1 => ?_
  subst hv
  walk_at "ev"
  refine W_dq (sp13 (n := 16) (ns := ns) (L := L0) ha1 hb1) fun v a2 b2 s2 ⟨q, w2, hv, ok2⟩ ha2 hb2 => ?_
  subst hv
  walk_at "ev"
  rw [Nx_nx, asc, ds_len]
  walk_at "ev"
  rw [Nx_nx, asc, ds_len]
  exact stA (L := L0 ++ [O.lst [plD p, plD q]]) (j := L0.length) (fun T => getL (getN L0 _ [])) ok ok2 ha2 hb2
theorem main : ∀ ns : List Int, ns.length ≤ 63 → ∃ S, callN P gl 20 18 [.fls (ns.map .int)] [] = .ok (.bl true) S := by
  intro ns _
  obtain ⟨v, S, e, h⟩ := (law_run ns).get
  exact ⟨S, by rw [e, h]⟩
end Law
end PV

namespace PV
namespace Law
open PySem PySem.Spec PyProof.Rows L2
theorem s0 : FnScope ["plan"] ["plan"] (defScope (tp 7)) := ⟨rfl, rfl, rfl, by decide +kernel, rfl, by decide +kernel, by decide +kernel⟩
theorem c0 : cS fuelS cs (defScope (tp 7)) ["plan"] (defBody (tp 7)) = some t0 := by kernel_rfl
theorem s1 : FnScope ["plan", "cell", "width"] ["plan", "cell"] (defScope (tp 8)) := ⟨rfl, rfl, rfl, by decide +kernel, rfl, by decide +kernel, by decide +kernel⟩
theorem c1 : cS fuelS cs (defScope (tp 8)) ["plan", "cell", "width"] (defBody (tp 8)) = some t1 := by kernel_rfl
theorem s2 : FnScope ["char"] ["char"] (defScope (tp 9)) := ⟨rfl, rfl, rfl, by decide +kernel, rfl, by decide +kernel, by decide +kernel⟩
theorem c2 : cS fuelS cs (defScope (tp 9)) ["char"] (defBody (tp 9)) = some t2 := by kernel_rfl
theorem s3 : FnScope ["char"] ["char"] (defScope (tp 10)) := ⟨rfl, rfl, rfl, by decide +kernel, rfl, by decide +kernel, by decide +kernel⟩
theorem c3 : cS fuelS cs (defScope (tp 10)) ["char"] (defBody (tp 10)) = some t3 := by kernel_rfl
theorem s4 : FnScope ["plan", "most", "line", "char"] ["plan"] (defScope (tp 11)) := ⟨rfl, rfl, rfl, by decide +kernel, rfl, by decide +kernel, by decide +kernel⟩
theorem c4 : cS fuelS cs (defScope (tp 11)) ["plan", "most", "line", "char"] (defBody (tp 11)) = some t4 := by kernel_rfl
theorem s5 : FnScope ["plan", "setting", "cell", "char", "gate", "lid"] ["plan", "setting", "cell"] (defScope (tp 12)) := ⟨rfl, rfl, rfl, by decide +kernel, rfl, by decide +kernel, by decide +kernel⟩
theorem c5 : cS fuelS cs (defScope (tp 12)) ["plan", "setting", "cell", "char", "gate", "lid"] (defBody (tp 12)) = some t5 := by kernel_rfl
theorem s6 : FnScope ["plan", "cell"] ["plan", "cell"] (defScope (tp 13)) := ⟨rfl, rfl, rfl, by decide +kernel, rfl, by decide +kernel, by decide +kernel⟩
theorem c6 : cS fuelS cs (defScope (tp 13)) ["plan", "cell"] (defBody (tp 13)) = some t6 := by kernel_rfl
theorem s7 : FnScope ["plan", "cell", "direction", "width", "line", "column"] ["plan", "cell", "direction"] (defScope (tp 14)) := ⟨rfl, rfl, rfl, by decide +kernel, rfl, by decide +kernel, by decide +kernel⟩
theorem c7 : cS fuelS cs (defScope (tp 14)) ["plan", "cell", "direction", "width", "line", "column"] (defBody (tp 14)) = some t7 := by kernel_rfl
theorem s8 : FnScope ["script", "cell"] ["script"] (defScope (tp 16)) := ⟨rfl, rfl, rfl, by decide +kernel, rfl, by decide +kernel, by decide +kernel⟩
theorem c8 : cS fuelS cs (defScope (tp 16)) ["script", "cell"] (defBody (tp 16)) = some t8 := by kernel_rfl
theorem s9 : FnScope ["d", "many", "found", "size", "cell"] ["d", "many"] (defScope (tp 17)) := ⟨rfl, rfl, rfl, by decide +kernel, rfl, by decide +kernel, by decide +kernel⟩
theorem c9 : cS fuelS cs (defScope (tp 17)) ["d", "many", "found", "size", "cell"] (defBody (tp 17)) = some t9 := by kernel_rfl
theorem s10 : FnScope ["d", "row"] ["d", "row"] (defScope (tp 18)) := ⟨rfl, rfl, rfl, by decide +kernel, rfl, by decide +kernel, by decide +kernel⟩
theorem c10 : cS fuelS cs (defScope (tp 18)) ["d", "row"] (defBody (tp 18)) = some t10 := by kernel_rfl
theorem s11 : FnScope ["thing"] ["thing"] (defScope (tp 19)) := ⟨rfl, rfl, rfl, by decide +kernel, rfl, by decide +kernel, by decide +kernel⟩
theorem c11 : cS fuelS cs (defScope (tp 19)) ["thing"] (defBody (tp 19)) = some t11 := by kernel_rfl
theorem s12 : FnScope [] [] (defScope (tp 20)) := ⟨rfl, rfl, rfl, by decide +kernel, rfl, by decide +kernel, by decide +kernel⟩
theorem c12 : cS fuelS cs (defScope (tp 20)) [] (defBody (tp 20)) = some t12 := by kernel_rfl
theorem s13 : FnScope ["d", "high", "wide", "stock", "k", "line"] ["d"] (defScope (tp 21)) := ⟨rfl, rfl, rfl, by decide +kernel, rfl, by decide +kernel, by decide +kernel⟩
theorem c13 : cS fuelS cs (defScope (tp 21)) ["d", "high", "wide", "stock", "k", "line"] (defBody (tp 21)) = some t13 := by kernel_rfl
theorem s14 : FnScope ["plan", "most", "door", "line"] ["plan"] (defScope (tp 22)) := ⟨rfl, rfl, rfl, by decide +kernel, rfl, by decide +kernel, by decide +kernel⟩
theorem c14 : cS fuelS cs (defScope (tp 22)) ["plan", "most", "door", "line"] (defBody (tp 22)) = some t14 := by kernel_rfl
theorem s15 : FnScope ["char", "setting", "fixed", "door"] ["char", "setting"] (defScope (tp 23)) := ⟨rfl, rfl, rfl, by decide +kernel, rfl, by decide +kernel, by decide +kernel⟩
theorem c15 : cS fuelS cs (defScope (tp 23)) ["char", "setting", "fixed", "door"] (defBody (tp 23)) = some t15 := by kernel_rfl
theorem s16 : FnScope ["d", "doors", "one", "k", "turned"] ["d", "doors"] (defScope (tp 24)) := ⟨rfl, rfl, rfl, by decide +kernel, rfl, by decide +kernel, by decide +kernel⟩
theorem c16 : cS fuelS cs (defScope (tp 24)) ["d", "doors", "one", "k", "turned"] (defBody (tp 24)) = some t16 := by kernel_rfl
theorem s17 : FnScope ["plan", "both", "line", "column", "wide", "cell", "char", "mark", "setting", "steps", "direction", "down", "right", "due", "told"] ["plan", "both", "line", "column"] (defScope (tp 25)) := ⟨rfl, rfl, rfl, by decide +kernel, rfl, by decide +kernel, by decide +kernel⟩
theorem c17 : cS fuelS cs (defScope (tp 25)) ["plan", "both", "line", "column", "wide", "cell", "char", "mark", "setting", "steps", "direction", "down", "right", "due", "told"] (defBody (tp 25)) = some t17 := by kernel_rfl
theorem s18 : FnScope ["script", "d", "floors", "pairs", "plan", "doors", "told", "line", "column", "k"] ["script"] (defScope (tp 26)) := ⟨rfl, rfl, rfl, by decide +kernel, rfl, by decide +kernel, by decide +kernel⟩
theorem c18 : cS fuelS cs (defScope (tp 26)) ["script", "d", "floors", "pairs", "plan", "doors", "told", "line", "column", "k"] (defBody (tp 26)) = some t18 := by kernel_rfl
theorem head {l : PySem.W.OpenLaw} {w : World} {K : PySem.W.Frag} {h : Heap} {mg : Str → Option Value} {fa : Addr} (X : K.In h) (G : h.Ns mainGlobals mg) (hfa : mg "law" = some (.ref fa))
    {f0 : Addr} {oc0 kV0 dc0 pm0 cd0 ct0 : Value} {od0 an0 : Option Addr} {sl0 : Array (Option Value)} (a0 : PySem.W.nsIn K mainGlobals "width_of" = some (some (.ref f0))) (l0 : K.lookup f0 = some ⟨oc0, od0, .func (PySem.W.fnOf "width_of" "width_of" (defArgs (tp 7)) (defBody (tp 7)) (defScope (tp 7)) .none kV0 dc0 pm0 an0 cd0 ct0), sl0⟩) (d0 : PySem.W.codeIn K cd0 "width_of" = true) (k0 : PySem.W.keepIn K (.ref f0) = true)
    {f1 : Addr} {oc1 kV1 dc1 pm1 cd1 ct1 : Value} {od1 an1 : Option Addr} {sl1 : Array (Option Value)} (a1 : PySem.W.nsIn K mainGlobals "char_at" = some (some (.ref f1))) (l1 : K.lookup f1 = some ⟨oc1, od1, .func (PySem.W.fnOf "char_at" "char_at" (defArgs (tp 8)) (defBody (tp 8)) (defScope (tp 8)) .none kV1 dc1 pm1 an1 cd1 ct1), sl1⟩) (d1 : PySem.W.codeIn K cd1 "char_at" = true) (k1 : PySem.W.keepIn K (.ref f1) = true)
    {f2 : Addr} {oc2 kV2 dc2 pm2 cd2 ct2 : Value} {od2 an2 : Option Addr} {sl2 : Array (Option Value)} (a2 : PySem.W.nsIn K mainGlobals "gate_door" = some (some (.ref f2))) (l2 : K.lookup f2 = some ⟨oc2, od2, .func (PySem.W.fnOf "gate_door" "gate_door" (defArgs (tp 9)) (defBody (tp 9)) (defScope (tp 9)) .none kV2 dc2 pm2 an2 cd2 ct2), sl2⟩) (d2 : PySem.W.codeIn K cd2 "gate_door" = true) (k2 : PySem.W.keepIn K (.ref f2) = true)
    {f3 : Addr} {oc3 kV3 dc3 pm3 cd3 ct3 : Value} {od3 an3 : Option Addr} {sl3 : Array (Option Value)} (a3 : PySem.W.nsIn K mainGlobals "lid_door" = some (some (.ref f3))) (l3 : K.lookup f3 = some ⟨oc3, od3, .func (PySem.W.fnOf "lid_door" "lid_door" (defArgs (tp 10)) (defBody (tp 10)) (defScope (tp 10)) .none kV3 dc3 pm3 an3 cd3 ct3), sl3⟩) (d3 : PySem.W.codeIn K cd3 "lid_door" = true) (k3 : PySem.W.keepIn K (.ref f3) = true)
    {f4 : Addr} {oc4 kV4 dc4 pm4 cd4 ct4 : Value} {od4 an4 : Option Addr} {sl4 : Array (Option Value)} (a4 : PySem.W.nsIn K mainGlobals "doors_of" = some (some (.ref f4))) (l4 : K.lookup f4 = some ⟨oc4, od4, .func (PySem.W.fnOf "doors_of" "doors_of" (defArgs (tp 11)) (defBody (tp 11)) (defScope (tp 11)) .none kV4 dc4 pm4 an4 cd4 ct4), sl4⟩) (d4 : PySem.W.codeIn K cd4 "doors_of" = true) (k4 : PySem.W.keepIn K (.ref f4) = true)
    {f5 : Addr} {oc5 kV5 dc5 pm5 cd5 ct5 : Value} {od5 an5 : Option Addr} {sl5 : Array (Option Value)} (a5 : PySem.W.nsIn K mainGlobals "cell_kind" = some (some (.ref f5))) (l5 : K.lookup f5 = some ⟨oc5, od5, .func (PySem.W.fnOf "cell_kind" "cell_kind" (defArgs (tp 12)) (defBody (tp 12)) (defScope (tp 12)) .none kV5 dc5 pm5 an5 cd5 ct5), sl5⟩) (d5 : PySem.W.codeIn K cd5 "cell_kind" = true) (k5 : PySem.W.keepIn K (.ref f5) = true)
    {f6 : Addr} {oc6 kV6 dc6 pm6 cd6 ct6 : Value} {od6 an6 : Option Addr} {sl6 : Array (Option Value)} (a6 : PySem.W.nsIn K mainGlobals "mark_of" = some (some (.ref f6))) (l6 : K.lookup f6 = some ⟨oc6, od6, .func (PySem.W.fnOf "mark_of" "mark_of" (defArgs (tp 13)) (defBody (tp 13)) (defScope (tp 13)) .none kV6 dc6 pm6 an6 cd6 ct6), sl6⟩) (d6 : PySem.W.codeIn K cd6 "mark_of" = true) (k6 : PySem.W.keepIn K (.ref f6) = true)
    {f7 : Addr} {oc7 kV7 dc7 pm7 cd7 ct7 : Value} {od7 an7 : Option Addr} {sl7 : Array (Option Value)} (a7 : PySem.W.nsIn K mainGlobals "next_cell" = some (some (.ref f7))) (l7 : K.lookup f7 = some ⟨oc7, od7, .func (PySem.W.fnOf "next_cell" "next_cell" (defArgs (tp 14)) (defBody (tp 14)) (defScope (tp 14)) .none kV7 dc7 pm7 an7 cd7 ct7), sl7⟩) (d7 : PySem.W.codeIn K cd7 "next_cell" = true) (k7 : PySem.W.keepIn K (.ref f7) = true)
    {f8 : Addr} {oc8 kV8 dc8 pm8 cd8 ct8 : Value} {od8 an8 : Option Addr} {sl8 : Array (Option Value)} (a8 : PySem.W.nsIn K mainGlobals "_law_begin" = some (some (.ref f8))) (l8 : K.lookup f8 = some ⟨oc8, od8, .func (PySem.W.fnOf "_law_begin" "_law_begin" (defArgs (tp 16)) (defBody (tp 16)) (defScope (tp 16)) .none kV8 dc8 pm8 an8 cd8 ct8), sl8⟩) (d8 : PySem.W.codeIn K cd8 "_law_begin" = true) (k8 : PySem.W.keepIn K (.ref f8) = true)
    {f9 : Addr} {oc9 kV9 dc9 pm9 cd9 ct9 : Value} {od9 an9 : Option Addr} {sl9 : Array (Option Value)} (a9 : PySem.W.nsIn K mainGlobals "_law_draw" = some (some (.ref f9))) (l9 : K.lookup f9 = some ⟨oc9, od9, .func (PySem.W.fnOf "_law_draw" "_law_draw" (defArgs (tp 17)) (defBody (tp 17)) (defScope (tp 17)) .none kV9 dc9 pm9 an9 cd9 ct9), sl9⟩) (d9 : PySem.W.codeIn K cd9 "_law_draw" = true) (k9 : PySem.W.keepIn K (.ref f9) = true)
    {f10 : Addr} {oc10 kV10 dc10 pm10 cd10 ct10 : Value} {od10 an10 : Option Addr} {sl10 : Array (Option Value)} (a10 : PySem.W.nsIn K mainGlobals "_law_pick" = some (some (.ref f10))) (l10 : K.lookup f10 = some ⟨oc10, od10, .func (PySem.W.fnOf "_law_pick" "_law_pick" (defArgs (tp 18)) (defBody (tp 18)) (defScope (tp 18)) .none kV10 dc10 pm10 an10 cd10 ct10), sl10⟩) (d10 : PySem.W.codeIn K cd10 "_law_pick" = true) (k10 : PySem.W.keepIn K (.ref f10) = true)
    {f11 : Addr} {oc11 kV11 dc11 pm11 cd11 ct11 : Value} {od11 an11 : Option Addr} {sl11 : Array (Option Value)} (a11 : PySem.W.nsIn K mainGlobals "_law_is_int" = some (some (.ref f11))) (l11 : K.lookup f11 = some ⟨oc11, od11, .func (PySem.W.fnOf "_law_is_int" "_law_is_int" (defArgs (tp 19)) (defBody (tp 19)) (defScope (tp 19)) .none kV11 dc11 pm11 an11 cd11 ct11), sl11⟩) (d11 : PySem.W.codeIn K cd11 "_law_is_int" = true) (k11 : PySem.W.keepIn K (.ref f11) = true)
    {f12 : Addr} {oc12 kV12 dc12 pm12 cd12 ct12 : Value} {od12 an12 : Option Addr} {sl12 : Array (Option Value)} (a12 : PySem.W.nsIn K mainGlobals "_law_floor_signs" = some (some (.ref f12))) (l12 : K.lookup f12 = some ⟨oc12, od12, .func (PySem.W.fnOf "_law_floor_signs" "_law_floor_signs" (defArgs (tp 20)) (defBody (tp 20)) (defScope (tp 20)) .none kV12 dc12 pm12 an12 cd12 ct12), sl12⟩) (d12 : PySem.W.codeIn K cd12 "_law_floor_signs" = true) (k12 : PySem.W.keepIn K (.ref f12) = true)
    {f13 : Addr} {oc13 kV13 dc13 pm13 cd13 ct13 : Value} {od13 an13 : Option Addr} {sl13 : Array (Option Value)} (a13 : PySem.W.nsIn K mainGlobals "_law_any_plan" = some (some (.ref f13))) (l13 : K.lookup f13 = some ⟨oc13, od13, .func (PySem.W.fnOf "_law_any_plan" "_law_any_plan" (defArgs (tp 21)) (defBody (tp 21)) (defScope (tp 21)) .none kV13 dc13 pm13 an13 cd13 ct13), sl13⟩) (d13 : PySem.W.codeIn K cd13 "_law_any_plan" = true) (k13 : PySem.W.keepIn K (.ref f13) = true)
    {f14 : Addr} {oc14 kV14 dc14 pm14 cd14 ct14 : Value} {od14 an14 : Option Addr} {sl14 : Array (Option Value)} (a14 : PySem.W.nsIn K mainGlobals "_law_due_doors" = some (some (.ref f14))) (l14 : K.lookup f14 = some ⟨oc14, od14, .func (PySem.W.fnOf "_law_due_doors" "_law_due_doors" (defArgs (tp 22)) (defBody (tp 22)) (defScope (tp 22)) .none kV14 dc14 pm14 an14 cd14 ct14), sl14⟩) (d14 : PySem.W.codeIn K cd14 "_law_due_doors" = true) (k14 : PySem.W.keepIn K (.ref f14) = true)
    {f15 : Addr} {oc15 kV15 dc15 pm15 cd15 ct15 : Value} {od15 an15 : Option Addr} {sl15 : Array (Option Value)} (a15 : PySem.W.nsIn K mainGlobals "_law_due_kind" = some (some (.ref f15))) (l15 : K.lookup f15 = some ⟨oc15, od15, .func (PySem.W.fnOf "_law_due_kind" "_law_due_kind" (defArgs (tp 23)) (defBody (tp 23)) (defScope (tp 23)) .none kV15 dc15 pm15 an15 cd15 ct15), sl15⟩) (d15 : PySem.W.codeIn K cd15 "_law_due_kind" = true) (k15 : PySem.W.keepIn K (.ref f15) = true)
    {f16 : Addr} {oc16 kV16 dc16 pm16 cd16 ct16 : Value} {od16 an16 : Option Addr} {sl16 : Array (Option Value)} (a16 : PySem.W.nsIn K mainGlobals "_law_two_settings" = some (some (.ref f16))) (l16 : K.lookup f16 = some ⟨oc16, od16, .func (PySem.W.fnOf "_law_two_settings" "_law_two_settings" (defArgs (tp 24)) (defBody (tp 24)) (defScope (tp 24)) .none kV16 dc16 pm16 an16 cd16 ct16), sl16⟩) (d16 : PySem.W.codeIn K cd16 "_law_two_settings" = true) (k16 : PySem.W.keepIn K (.ref f16) = true)
    {f17 : Addr} {oc17 kV17 dc17 pm17 cd17 ct17 : Value} {od17 an17 : Option Addr} {sl17 : Array (Option Value)} (a17 : PySem.W.nsIn K mainGlobals "_law_right_cell" = some (some (.ref f17))) (l17 : K.lookup f17 = some ⟨oc17, od17, .func (PySem.W.fnOf "_law_right_cell" "_law_right_cell" (defArgs (tp 25)) (defBody (tp 25)) (defScope (tp 25)) .none kV17 dc17 pm17 an17 cd17 ct17), sl17⟩) (d17 : PySem.W.codeIn K cd17 "_law_right_cell" = true) (k17 : PySem.W.keepIn K (.ref f17) = true)
    {f18 : Addr} {oc18 kV18 dc18 pm18 cd18 ct18 : Value} {od18 an18 : Option Addr} {sl18 : Array (Option Value)} (a18 : PySem.W.nsIn K mainGlobals "law" = some (some (.ref f18))) (l18 : K.lookup f18 = some ⟨oc18, od18, .func (PySem.W.fnOf "law" "law" (defArgs (tp 26)) (defBody (tp 26)) (defScope (tp 26)) .none kV18 dc18 pm18 an18 cd18 ct18), sl18⟩) (d18 : PySem.W.codeIn K cd18 "law" = true) (k18 : PySem.W.keepIn K (.ref f18) = true)
    (z0 : PySem.W.nsIn K mainGlobals "len" = some none)
    (z1 : PySem.W.nsIn K mainGlobals "abs" = some none)
    (z2 : PySem.W.nsIn K mainGlobals "all" = some none)
    (z3 : PySem.W.nsIn K mainGlobals "any" = some none)
    (z4 : PySem.W.nsIn K mainGlobals "sum" = some none)
    (z5 : PySem.W.nsIn K mainGlobals "sorted" = some none)
    (z6 : PySem.W.nsIn K mainGlobals "max" = some none)
    (z7 : PySem.W.nsIn K mainGlobals "min" = some none)
    (z8 : PySem.W.nsIn K mainGlobals "int" = some none)
    (z9 : PySem.W.nsIn K mainGlobals "bool" = some none)
    (z10 : PySem.W.nsIn K mainGlobals "tuple" = some none)
    (z11 : PySem.W.nsIn K mainGlobals "str" = some none)
    (z12 : PySem.W.nsIn K mainGlobals "list" = some none)
    (z13 : PySem.W.nsIn K mainGlobals "isinstance" = some none)
    (z14 : PySem.W.nsIn K mainGlobals "range" = some none)
    (z15 : PySem.W.nsIn K mainGlobals "zip" = some none)
    (z16 : PySem.W.nsIn K mainGlobals "set" = some none)
    (z17 : PySem.W.nsIn K mainGlobals "enumerate" = some none)
    (z18 : PySem.W.nsIn K mainGlobals "reversed" = some none)
    (z19 : PySem.W.nsIn K mainGlobals "ord" = some none)
    {ct0_t : Tok} (tn0 : PySem.W.nsIn K mainGlobals "MARKS" = some (some (.str "abcdefgh" ct0_t)))
    {ct1_t : Tok} (tn1 : PySem.W.nsIn K mainGlobals "GATES" = some (some (.str "123456" ct1_t)))
    {ct2_t : Tok} (tn2 : PySem.W.nsIn K mainGlobals "LIDS" = some (some (.str "ABCDEF" ct2_t)))
    {ct3_a : Addr} {ct3_od : Option Addr} {ct3_n : Nat} {ct3_sl : Array (Option Value)} {ct3_h0 ct3_h1 ct3_h2 : Int} {ct3_t0 ct3_u0 ct3_t1 ct3_u1 ct3_t2 ct3_u2 : Tok} (tn3 : PySem.W.nsIn K mainGlobals "OBSTACLES" = some (some (.ref ct3_a))) (tl3 : K.lookup ct3_a = some ⟨.type "dict", ct3_od, .dict #[⟨ct3_h0, .str "#" ct3_t0, .str "wall" ct3_u0⟩, ⟨ct3_h1, .str "*" ct3_t1, .str "glass" ct3_u1⟩, ⟨ct3_h2, .str "!" ct3_t2, .str "hole" ct3_u2⟩] ct3_n, ct3_sl⟩) (dw3 : He.dicW K ct3_a = some (He.keysIn w.params ["#", "*", "!"]))
    {ct4_a : Addr} {ct4_od : Option Addr} {ct4_n : Nat} {ct4_sl : Array (Option Value)} {ct4_t0 ct4_t1 ct4_t2 ct4_t3 : Tok} (tn4 : PySem.W.nsIn K mainGlobals "DOWN" = some (some (.ref ct4_a))) (tl4 : K.lookup ct4_a = some ⟨.type "tuple", ct4_od, .seq #[.int (-1) ct4_t0, .int (0) ct4_t1, .int (1) ct4_t2, .int (0) ct4_t3] ct4_n, ct4_sl⟩)
    {ct5_a : Addr} {ct5_od : Option Addr} {ct5_n : Nat} {ct5_sl : Array (Option Value)} {ct5_t0 ct5_t1 ct5_t2 ct5_t3 : Tok} (tn5 : PySem.W.nsIn K mainGlobals "RIGHT" = some (some (.ref ct5_a))) (tl5 : K.lookup ct5_a = some ⟨.type "tuple", ct5_od, .seq #[.int (0) ct5_t0, .int (1) ct5_t1, .int (0) ct5_t2, .int (-1) ct5_t3] ct5_n, ct5_sl⟩)
    : ∃ fd : FuncData, (∀ (s : Shared) (v : Value), BindsTo s fd ⟨[v], []⟩ [("script", v)]) ∧ ∀ base : Heap, K.In base → base.Ns mainGlobals mg → FnOk l.prog w K mg base CX0 20 fa fd ["script"] (fun vs H Q _ => rN K (callN P gl 20 18) vs H Q) := by
  have e := hfa.symm.trans (PySem.W.mg_of X G a18)
  cases e
  have e0 := ffOf (C := cs) (P := P) (i := 0) X G a0 l0 d0 k0 s0 rfl rfl rfl c0 fun _ _ _ _ _ _ us hl => match us, hl with | [_], _ => rfl
  have e1 := ffOf (C := cs) (P := P) (i := 1) X G a1 l1 d1 k1 s1 rfl rfl rfl c1 fun _ _ _ _ _ _ us hl => match us, hl with | [_, _], _ => rfl
  have e2 := ffOf (C := cs) (P := P) (i := 2) X G a2 l2 d2 k2 s2 rfl rfl rfl c2 fun _ _ _ _ _ _ us hl => match us, hl with | [_], _ => rfl
  have e3 := ffOf (C := cs) (P := P) (i := 3) X G a3 l3 d3 k3 s3 rfl rfl rfl c3 fun _ _ _ _ _ _ us hl => match us, hl with | [_], _ => rfl
  have e4 := ffOf (C := cs) (P := P) (i := 4) X G a4 l4 d4 k4 s4 rfl rfl rfl c4 fun _ _ _ _ _ _ us hl => match us, hl with | [_], _ => rfl
  have e5 := ffOf (C := cs) (P := P) (i := 5) X G a5 l5 d5 k5 s5 rfl rfl rfl c5 fun _ _ _ _ _ _ us hl => match us, hl with | [_, _, _], _ => rfl
  have e6 := ffOf (C := cs) (P := P) (i := 6) X G a6 l6 d6 k6 s6 rfl rfl rfl c6 fun _ _ _ _ _ _ us hl => match us, hl with | [_, _], _ => rfl
  have e7 := ffOf (C := cs) (P := P) (i := 7) X G a7 l7 d7 k7 s7 rfl rfl rfl c7 fun _ _ _ _ _ _ us hl => match us, hl with | [_, _, _], _ => rfl
  have e8 := ffOf (C := cs) (P := P) (i := 8) X G a8 l8 d8 k8 s8 rfl rfl rfl c8 fun _ _ _ _ _ _ us hl => match us, hl with | [_], _ => rfl
  have e9 := ffOf (C := cs) (P := P) (i := 9) X G a9 l9 d9 k9 s9 rfl rfl rfl c9 fun _ _ _ _ _ _ us hl => match us, hl with | [_, _], _ => rfl
  have e10 := ffOf (C := cs) (P := P) (i := 10) X G a10 l10 d10 k10 s10 rfl rfl rfl c10 fun _ _ _ _ _ _ us hl => match us, hl with | [_, _], _ => rfl
  have e11 := ffOf (C := cs) (P := P) (i := 11) X G a11 l11 d11 k11 s11 rfl rfl rfl c11 fun _ _ _ _ _ _ us hl => match us, hl with | [_], _ => rfl
  have e12 := ffOf (C := cs) (P := P) (i := 12) X G a12 l12 d12 k12 s12 rfl rfl rfl c12 fun _ _ _ _ _ _ us hl => match us, hl with | [], _ => rfl
  have e13 := ffOf (C := cs) (P := P) (i := 13) X G a13 l13 d13 k13 s13 rfl rfl rfl c13 fun _ _ _ _ _ _ us hl => match us, hl with | [_], _ => rfl
  have e14 := ffOf (C := cs) (P := P) (i := 14) X G a14 l14 d14 k14 s14 rfl rfl rfl c14 fun _ _ _ _ _ _ us hl => match us, hl with | [_], _ => rfl
  have e15 := ffOf (C := cs) (P := P) (i := 15) X G a15 l15 d15 k15 s15 rfl rfl rfl c15 fun _ _ _ _ _ _ us hl => match us, hl with | [_, _], _ => rfl
  have e16 := ffOf (C := cs) (P := P) (i := 16) X G a16 l16 d16 k16 s16 rfl rfl rfl c16 fun _ _ _ _ _ _ us hl => match us, hl with | [_, _], _ => rfl
  have e17 := ffOf (C := cs) (P := P) (i := 17) X G a17 l17 d17 k17 s17 rfl rfl rfl c17 fun _ _ _ _ _ _ us hl => match us, hl with | [_, _, _, _], _ => rfl
  have e18 := ffOf (C := cs) (P := P) (i := 18) X G a18 l18 d18 k18 s18 rfl rfl rfl c18 fun _ _ _ _ _ _ us hl => match us, hl with | [_], _ => rfl
  have hd : Hd K mg w cs P gl := ⟨fun a h => by have q := tn3.symm.trans h; cases q; exact He.dicW_ok dw3, fun x hx => ?_, (fun k x hx => match k, hx with | 0, hx => by cases hx; exact ⟨.str _ _, .str _, _, PySem.W.mg_of X G tn0, ⟨_, rfl⟩, rfl, fun m H => .str _ ⟨by decide +kernel, by decide +kernel⟩⟩ | 1, hx => by cases hx; exact ⟨.str _ _, .str _, _, PySem.W.mg_of X G tn1, ⟨_, rfl⟩, rfl, fun m H => .str _ ⟨by decide +kernel, by decide +kernel⟩⟩ | 2, hx => by cases hx; exact ⟨.str _ _, .str _, _, PySem.W.mg_of X G tn2, ⟨_, rfl⟩, rfl, fun m H => .str _ ⟨by decide +kernel, by decide +kernel⟩⟩ | 3, hx => by cases hx; exact ⟨.ref _, .ref _, _, PySem.W.mg_of X G tn3, rfl, rfl, fun m H => .cdc (cd_of tn3 tl3 (.cons ⟨by decide +kernel, by decide +kernel⟩ (.cons ⟨by decide +kernel, by decide +kernel⟩ (.cons ⟨by decide +kernel, by decide +kernel⟩ .nil))))⟩ | 4, hx => by cases hx; exact ⟨.ref _, .ref _, _, PySem.W.mg_of X G tn4, rfl, rfl, fun m H => .ctu (xs := [.int (-1), .int (0), .int (1), .int (0)]) ⟨_, _, _, tl4, rfl, rfl, by rw [sizeLine_eq]; show 4 ≤ 16777216; decide, (.cons ⟨_, rfl⟩ (.cons ⟨_, rfl⟩ (.cons ⟨_, rfl⟩ (.cons ⟨_, rfl⟩ .nil))))⟩ (.cons (.int _) (.cons (.int _) (.cons (.int _) (.cons (.int _) .nil))))⟩ | 5, hx => by cases hx; exact ⟨.ref _, .ref _, _, PySem.W.mg_of X G tn5, rfl, rfl, fun m H => .ctu (xs := [.int (0), .int (1), .int (0), .int (-1)]) ⟨_, _, _, tl5, rfl, rfl, by rw [sizeLine_eq]; show 4 ≤ 16777216; decide, (.cons ⟨_, rfl⟩ (.cons ⟨_, rfl⟩ (.cons ⟨_, rfl⟩ (.cons ⟨_, rfl⟩ .nil))))⟩ (.cons (.int _) (.cons (.int _) (.cons (.int _) (.cons (.int _) .nil))))⟩ | k + 6, hx => by cases hx), Tab.fns (.cons e0 (.cons e1 (.cons e2 (.cons e3 (.cons e4 (.cons e5 (.cons e6 (.cons e7 (.cons e8 (.cons e9 (.cons e10 (.cons e11 (.cons e12 (.cons e13 (.cons e14 (.cons e15 (.cons e16 (.cons e17 (.cons e18 (.nil))))))))))))))))))))⟩
  · exact ⟨_, fun s v => .of_eq rfl, fun base _ _ => fnTop hd (20 - 1) e18⟩
  · simp only [bltNames, List.mem_cons, List.not_mem_nil, or_false] at hx
    rcases hx with rfl | rfl | rfl | rfl | rfl | rfl | rfl | rfl | rfl | rfl | rfl | rfl | rfl | rfl | rfl | rfl | rfl | rfl | rfl | rfl
    · exact PySem.W.mg_none_of X G z0
    · exact PySem.W.mg_none_of X G z1
    · exact PySem.W.mg_none_of X G z2
    · exact PySem.W.mg_none_of X G z3
    · exact PySem.W.mg_none_of X G z4
    · exact PySem.W.mg_none_of X G z5
    · exact PySem.W.mg_none_of X G z6
    · exact PySem.W.mg_none_of X G z7
    · exact PySem.W.mg_none_of X G z8
    · exact PySem.W.mg_none_of X G z9
    · exact PySem.W.mg_none_of X G z10
    · exact PySem.W.mg_none_of X G z11
    · exact PySem.W.mg_none_of X G z12
    · exact PySem.W.mg_none_of X G z13
    · exact PySem.W.mg_none_of X G z14
    · exact PySem.W.mg_none_of X G z15
    · exact PySem.W.mg_none_of X G z16
    · exact PySem.W.mg_none_of X G z17
    · exact PySem.W.mg_none_of X G z18
    · exact PySem.W.mg_none_of X G z19
end Law
end PV
open PySem PySem.W PyProof.Rows
set_option maxHeartbeats 0 in
theorem PySem.Challenge.cw_doubtborne_k05_cells_of_plans_holds : PySem.Challenge.rw_doubtborne_k05_cells_of_plans.Holds := by
  w_on; o_law; k_head; (case hw => w_witness2)
  k_fill
  refine L2.walk_ofK (l := PySem.Challenge.rw_doubtborne_k05_cells_of_plans) (n := 63) (k := 20) (x := "script") (CX := L2.CX0) (sp := fun K vs H Q _ => PV.rN K (PV.callN PV.Law.P PV.Law.gl 20 18) vs H Q) rfl (by decide) rfl ⟨rfl, by decide, by decide⟩ (fun w h Y => PySem.W.kIn_of Y) ?F (PV.top_sp PV.Law.main) (fun _ _ _ _ h => h)
  case F =>
    intro w mg fa h KX G hmg
    refine' PV.Law.head KX G hmg ?a0 ?l0 ?d0 ?k0 ?a1 ?l1 ?d1 ?k1 ?a2 ?l2 ?d2 ?k2 ?a3 ?l3 ?d3 ?k3 ?a4 ?l4 ?d4 ?k4 ?a5 ?l5 ?d5 ?k5 ?a6 ?l6 ?d6 ?k6 ?a7 ?l7 ?d7 ?k7 ?a8 ?l8 ?d8 ?k8 ?a9 ?l9 ?d9 ?k9 ?a10 ?l10 ?d10 ?k10 ?a11 ?l11 ?d11 ?k11 ?a12 ?l12 ?d12 ?k12 ?a13 ?l13 ?d13 ?k13 ?a14 ?l14 ?d14 ?k14 ?a15 ?l15 ?d15 ?k15 ?a16 ?l16 ?d16 ?k16 ?a17 ?l17 ?d17 ?k17 ?a18 ?l18 ?d18 ?k18 ?z0 ?z1 ?z2 ?z3 ?z4 ?z5 ?z6 ?z7 ?z8 ?z9 ?z10 ?z11 ?z12 ?z13 ?z14 ?z15 ?z16 ?z17 ?z18 ?z19 ?tn0 ?tn1 ?tn2 ?tn3 ?tl3 ?dw3 ?tn4 ?tl4 ?tn5 ?tl5
    (case a0 => k_is)
    (case l0 => k_is)
    (case d0 => k_is)
    (case k0 => k_is)
    (case a1 => k_is)
    (case l1 => k_is)
    (case d1 => k_is)
    (case k1 => k_is)
    (case a2 => k_is)
    (case l2 => k_is)
    (case d2 => k_is)
    (case k2 => k_is)
    (case a3 => k_is)
    (case l3 => k_is)
    (case d3 => k_is)
    (case k3 => k_is)
    (case a4 => k_is)
    (case l4 => k_is)
    (case d4 => k_is)
    (case k4 => k_is)
    (case a5 => k_is)
    (case l5 => k_is)
    (case d5 => k_is)
    (case k5 => k_is)
    (case a6 => k_is)
    (case l6 => k_is)
    (case d6 => k_is)
    (case k6 => k_is)
    (case a7 => k_is)
    (case l7 => k_is)
    (case d7 => k_is)
    (case k7 => k_is)
    (case a8 => k_is)
    (case l8 => k_is)
    (case d8 => k_is)
    (case k8 => k_is)
    (case a9 => k_is)
    (case l9 => k_is)
    (case d9 => k_is)
    (case k9 => k_is)
    (case a10 => k_is)
    (case l10 => k_is)
    (case d10 => k_is)
    (case k10 => k_is)
    (case a11 => k_is)
    (case l11 => k_is)
    (case d11 => k_is)
    (case k11 => k_is)
    (case a12 => k_is)
    (case l12 => k_is)
    (case d12 => k_is)
    (case k12 => k_is)
    (case a13 => k_is)
    (case l13 => k_is)
    (case d13 => k_is)
    (case k13 => k_is)
    (case a14 => k_is)
    (case l14 => k_is)
    (case d14 => k_is)
    (case k14 => k_is)
    (case a15 => k_is)
    (case l15 => k_is)
    (case d15 => k_is)
    (case k15 => k_is)
    (case a16 => k_is)
    (case l16 => k_is)
    (case d16 => k_is)
    (case k16 => k_is)
    (case a17 => k_is)
    (case l17 => k_is)
    (case d17 => k_is)
    (case k17 => k_is)
    (case a18 => k_is)
    (case l18 => k_is)
    (case d18 => k_is)
    (case k18 => k_is)
    (case z0 => k_is)
    (case z1 => k_is)
    (case z2 => k_is)
    (case z3 => k_is)
    (case z4 => k_is)
    (case z5 => k_is)
    (case z6 => k_is)
    (case z7 => k_is)
    (case z8 => k_is)
    (case z9 => k_is)
    (case z10 => k_is)
    (case z11 => k_is)
    (case z12 => k_is)
    (case z13 => k_is)
    (case z14 => k_is)
    (case z15 => k_is)
    (case z16 => k_is)
    (case z17 => k_is)
    (case z18 => k_is)
    (case z19 => k_is)
    (case tn0 => k_is)
    (case tn1 => k_is)
    (case tn2 => k_is)
    (case tn3 => k_is)
    (case tl3 => k_is)
    (case dw3 => first | rfl | kernel_rfl)
    (case tn4 => k_is)
    (case tl4 => k_is)
    (case tn5 => k_is)
    (case tl5 => k_is)

